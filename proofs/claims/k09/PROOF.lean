import PyProof.Rows.All
import Wide.All
import OpenK.AllK
import Wide.FinOn
import HandS.ForMost
import HandS.Zip
import HandS.Rev
import HandS.RevRange
import HandS.TupAny
import HandS.TupMul
import HandS.TupSets
import HandS.DictTup
import HandS.DictComp
import HandS.DictEq
import HandS.DeepEq
import HandS.SortInts
import HandS.SortRule
import HandS.Style
import HandS.Conv
import HandS.Small
import HandS.Walk
import HandS.Wide
import HandS.IsInst
import HandS.Flow
import HandS.Gcd
import HandS.Deep
import HandS.TupLen
import KE.GoesMore
import KE.KRevIter
import HandS.EndBits
import HandS.Strs
import HandS.ReCall
import KE.KEqDict
import PySem.Challenge.RW_knotsooth_k09_braids_put_together
set_option Elab.async false
set_option linter.all false
set_option maxRecDepth 100000
set_option maxHeartbeats 4000000
/-! A value layer over the hand layer: data as trees, slots that own what they may change. -/
namespace Vl
open PySem PySem.Spec PyProof.Rows L2

/-- a value as data; a list's or a dict's mark tells whether its holder alone knows it (and may change it) -/
inductive D where
  | non | bl (b : Bool) | int (i : Int) | str (s : Str)
  | tup (l : List D) | lst (o : Bool) (l : List D) | dct (o t : Bool) (l : List (D × D)) | scr (l : List D) | xt (l : List D)

namespace D
mutual
/-- nothing within is owned -/
def noOwn : D → Bool
  | .tup l => noOwnL l
  | .lst o l => !o && noOwnL l
  | .dct o _ l => !o && noOwnP l
  | .scr l => noOwnL l
  | .xt l => noOwnL l
  | .non => true
  | .bl _ => true
  | .int _ => true
  | .str _ => true
def noOwnL : List D → Bool
  | [] => true
  | d :: r => noOwn d && noOwnL r
def noOwnP : List (D × D) → Bool
  | [] => true
  | (_, d) :: r => noOwn d && noOwnP r
end
mutual
/-- nothing within is a frozen list or dict -/
def noFz : D → Bool
  | .tup l => noFzL l
  | .lst o l => o && noFzL l
  | .dct o _ l => o && noFzP l
  | .scr l => noFzL l
  | .xt l => noFzL l
  | .non => true
  | .bl _ => true
  | .int _ => true
  | .str _ => true
def noFzL : List D → Bool
  | [] => true
  | d :: r => noFz d && noFzL r
def noFzP : List (D × D) → Bool
  | [] => true
  | (_, d) :: r => noFz d && noFzP r
end
mutual
def frz : D → D
  | .tup l => .tup (frzL l)
  | .lst _ l => .lst false (frzL l)
  | .dct _ t l => .dct false t (frzP l)
  | .scr l => .scr (frzL l)
  | .xt l => .xt (frzL l)
  | .non => .non
  | .bl b => .bl b
  | .int i => .int i
  | .str s => .str s
def frzL : List D → List D
  | [] => []
  | d :: r => frz d :: frzL r
def frzP : List (D × D) → List (D × D)
  | [] => []
  | (k, d) :: r => (k, frz d) :: frzP r
end
end D

abbrev Env := List (Option D)
def kD : Key → D
  | .inl i => .int i
  | .inr s => .str s

/-- a list that is known for good -/
def SqF (K : PySem.W.Frag) (H : Hp) (a : Addr) (xs : List V) : Prop :=
  (∃ o, H a = some (.frz o (.lst xs))) ∨
    ∃ (o : Obj) (its : Array Value) (n : Nat), K.lookup a = some o ∧ o.cls = .type "list" ∧ o.dict = none ∧ o.data = .seq its n ∧ its.size ≤ sizeLine ∧ Vals xs its.toList
theorem SqF.l {K : PySem.W.Frag} {H : Hp} {a : Addr} {xs : List V} (h : SqF K H a xs) : SqL K H a xs := by
  rcases h with h | h
  · exact .inl (.inr h)
  · exact .inr h
/-- a dict by its pairs: t, whether its keys are tuples -/
def DcH (t : Bool) (ks : List D) (vs : List V) (o : HO) : Prop := match t with
  | false => ∃ kvs : List (Key × V), o = .dK kvs ∧ ks = kvs.map (fun p => kD p.1) ∧ vs = kvs.map (·.2)
  | true => ∃ kvs : List (List Key × V), o = .dT kvs ∧ ks = kvs.map (fun p => .tup (p.1.map kD)) ∧ vs = kvs.map (·.2)
def DcAt (H : Hp) (a : Addr) (t : Bool) (ks : List D) (vs : List V) : Prop := ∃ o, H a = some o ∧ DcH t ks vs o
def DcLk (H : Hp) (a : Addr) (t : Bool) (ks : List D) (vs : List V) : Prop := ∃ od o, H a = some (.frz od o) ∧ DcH t ks vs o

section
variable (K : PySem.W.Frag) (Z : Addr → Prop) (H : Hp)
mutual
inductive R : D → V → List Addr → Prop
  | non : R .non .non []
  | bl (b : Bool) : R (.bl b) (.bl b) []
  | int (i : Int) : R (.int i) (.int i) []
  | str (s : Str) : R (.str s) (.str s) []
  | tup {a : Addr} {vs : List V} {ds : List D} {F : List Addr} : H a = some (.tup vs) → Rs ds vs F → R (.tup ds) (.ref a) F
  | own {a : Addr} {vs : List V} {ds : List D} {F : List Addr} : H a = some (.lst vs) → Rs ds vs F → R (.lst true ds) (.ref a) (a :: F)
  | fzn {a : Addr} {vs : List V} {ds : List D} : H a = some (.lst vs) → Z a → Rs ds vs [] → R (.lst false ds) (.ref a) []
  | knw {a : Addr} {vs : List V} {ds : List D} : SqF K H a vs → Rs ds vs [] → R (.scr ds) (.ref a) []
  | dow {a : Addr} {t : Bool} {vs : List V} {kvs : List (D × D)} {F : List Addr} : DcAt H a t (kvs.map (·.1)) vs → Rs (kvs.map (·.2)) vs F → R (.dct true t kvs) (.ref a) (a :: F)
  | dfz {a : Addr} {t : Bool} {vs : List V} {kvs : List (D × D)} : DcAt H a t (kvs.map (·.1)) vs → Z a → Rs (kvs.map (·.2)) vs [] → R (.dct false t kvs) (.ref a) []
  | dlk {a : Addr} {t : Bool} {vs : List V} {kvs : List (D × D)} : DcLk H a t (kvs.map (·.1)) vs → Rs (kvs.map (·.2)) vs [] → R (.dct false t kvs) (.ref a) []
  | xt {a : Addr} {vs : List V} {ds : List D} {F : List Addr} {o : Obj} : H a = some (.frz o (.tup vs)) → o.cls = .type "tuple" → o.dict = none → Rs ds vs F → R (.xt ds) (.ref a) F
inductive Rs : List D → List V → List Addr → Prop
  | nil : Rs [] [] []
  | cons {d : D} {ds : List D} {v : V} {vs : List V} {F G : List Addr} : R d v F → Rs ds vs G → Rs (d :: ds) (v :: vs) (F ++ G)
end
end

/-- what is kept: all but M; tuples and known things always -/
structure Keep (M : Addr → Prop) (H H' : Hp) : Prop where
  out : ∀ a o, H a = some o → ¬ M a → H' a = some o
  tup : ∀ a xs, H a = some (.tup xs) → H' a = some (.tup xs)
  frz : ∀ a o u, H a = some (.frz o u) → H' a = some (.frz o u)
  dom : ∀ a, H a ≠ none → H' a ≠ none
abbrev M0 : Addr → Prop := fun _ => False
theorem Keep.refl (M : Addr → Prop) (H : Hp) : Keep M H H := ⟨fun _ _ h _ => h, fun _ _ h => h, fun _ _ _ h => h, fun _ h => h⟩
theorem Keep.new {M : Addr → Prop} {H : Hp} {p : Addr} {o : HO} (h : H p = none) : Keep M H (upd H p o) :=
  ⟨fun a u e _ => by rw [upd_ne (ne_of_none e h)]; exact e, fun a u e => by rw [upd_ne (ne_of_none e h)]; exact e, fun a u w e => by rw [upd_ne (ne_of_none e h)]; exact e,
    fun a e => by
      by_cases q : a = p
      · subst q; exact absurd h e
      · rw [upd_ne q]; exact e⟩
theorem Keep.trans {M M1 M2 : Addr → Prop} {H H1 H2 : Hp} (k1 : Keep M1 H H1) (k2 : Keep M2 H1 H2) (h1 : ∀ a, M1 a → M a) (h2 : ∀ a, M2 a → M a ∨ H a = none) : Keep M H H2 :=
  ⟨fun a o e n => k2.out a o (k1.out a o e fun z => n (h1 a z)) fun z => (h2 a z).elim n (fun q => by rw [q] at e; cases e),
    fun a xs e => k2.tup a xs (k1.tup a xs e), fun a o u e => k2.frz a o u (k1.frz a o u e), fun a e => k2.dom a (k1.dom a e)⟩
theorem Keep.mono {M M' : Addr → Prop} {H H' : Hp} (k : Keep M H H') (h : ∀ a, M a → M' a) : Keep M' H H' := ⟨fun a o e n => k.out a o e fun z => n (h a z), k.tup, k.frz, k.dom⟩
theorem Keep.tr0 {H H1 H2 : Hp} (k1 : Keep M0 H H1) (k2 : Keep M0 H1 H2) : Keep M0 H H2 := k1.trans k2 (fun _ h => h) fun _ h => h.elim
theorem Keep.back {M : Addr → Prop} {H H' : Hp} (k : Keep M H H') {a : Addr} (h : H' a = none) : H a = none := by
  cases e : H a with
  | none => rfl
  | some o => exact absurd h (k.dom a (by rw [e]; intro z; cases z))
/-- a list, a dict is written -/
theorem Keep.wr {H : Hp} {p : Addr} {o u : HO} (h : H p = some u) (hu : Mut (some u)) : Keep (fun a => a = p) H (upd H p o) := by
  refine ⟨fun a w e n => ?_, fun a xs e => ?_, fun a w z e => ?_, fun a e => ?_⟩
  · rw [upd_ne n]; exact e
  · by_cases q : a = p
    · subst q; rw [h] at e; cases e; exact hu.elim
    · rw [upd_ne q]; exact e
  · by_cases q : a = p
    · subst q; rw [h] at e; cases e; exact hu.elim
    · rw [upd_ne q]; exact e
  · by_cases q : a = p
    · subst q; rw [upd_same]; intro z; cases z
    · rw [upd_ne q]; exact e
theorem Keep.sqt {M : Addr → Prop} {K : PySem.W.Frag} {H H' : Hp} (k : Keep M H H') {a : Addr} {xs : List V} (h : SqT K H a xs) : SqT K H' a xs := by
  rcases h with (h | ⟨o, h⟩) | h
  · exact .inl (.inl (k.tup _ _ h))
  · exact .inl (.inr ⟨o, k.frz _ _ _ h⟩)
  · exact .inr h
theorem Keep.sqf {M : Addr → Prop} {K : PySem.W.Frag} {H H' : Hp} (k : Keep M H H') {a : Addr} {xs : List V} (h : SqF K H a xs) : SqF K H' a xs := by
  rcases h with ⟨o, h⟩ | h
  · exact .inl ⟨o, k.frz _ _ _ h⟩
  · exact .inr h
theorem Keep.dc {M : Addr → Prop} {H H' : Hp} (k : Keep M H H') {a : Addr} {t : Bool} {ks : List D} {vs : List V} (n : ¬ M a) (h : DcAt H a t ks vs) : DcAt H' a t ks vs := by
  obtain ⟨o, h, r⟩ := h
  exact ⟨o, k.out _ _ h n, r⟩
theorem Keep.dl {M : Addr → Prop} {H H' : Hp} (k : Keep M H H') {a : Addr} {t : Bool} {ks : List D} {vs : List V} (h : DcLk H a t ks vs) : DcLk H' a t ks vs := by
  obtain ⟨od, o, h, r⟩ := h
  exact ⟨od, o, k.frz _ _ _ h, r⟩
theorem app_eq_nil {F G : List Addr} (h : F ++ G = []) : F = [] ∧ G = [] := by
  cases F with
  | nil => exact ⟨rfl, h⟩
  | cons a r => cases h
section
variable {K : PySem.W.Frag} {Z Z' : Addr → Prop} {H H' : Hp}
mutual
/-- what a value's data lean on is kept -/
theorem R.keep {M : Addr → Prop} (k : Keep M H H') (hz : ∀ a, Z a → Z' a) (hm : ∀ a, Z a → ¬ M a) : ∀ {d : D} {v : V} {F : List Addr}, R K Z H d v F → (∀ a ∈ F, ¬ M a) → R K Z' H' d v F
  | _, _, _, .non, _ => .non
  | _, _, _, .bl b, _ => .bl b
  | _, _, _, .int i, _ => .int i
  | _, _, _, .str s, _ => .str s
  | _, _, _, .tup h r, hf => .tup (k.tup _ _ h) (Rs.keep k hz hm r hf)
  | _, _, _, .own h r, hf => .own (k.out _ _ h (hf _ List.mem_cons_self)) (Rs.keep k hz hm r fun a ha => hf a (List.mem_cons_of_mem _ ha))
  | _, _, _, .fzn h z r, hf => .fzn (k.out _ _ h (hm _ z)) (hz _ z) (Rs.keep k hz hm r hf)
  | _, _, _, .knw h r, hf => .knw (k.sqf h) (Rs.keep k hz hm r hf)
  | _, _, _, .dow h r, hf => .dow (k.dc (hf _ List.mem_cons_self) h) (Rs.keep k hz hm r fun a ha => hf a (List.mem_cons_of_mem _ ha))
  | _, _, _, .dfz h z r, hf => .dfz (k.dc (hm _ z) h) (hz _ z) (Rs.keep k hz hm r hf)
  | _, _, _, .dlk h r, hf => .dlk (k.dl h) (Rs.keep k hz hm r hf)
  | _, _, _, .xt h h1 h2 r, hf => .xt (k.frz _ _ _ h) h1 h2 (Rs.keep k hz hm r hf)
theorem Rs.keep {M : Addr → Prop} (k : Keep M H H') (hz : ∀ a, Z a → Z' a) (hm : ∀ a, Z a → ¬ M a) : ∀ {ds : List D} {vs : List V} {F : List Addr}, Rs K Z H ds vs F → (∀ a ∈ F, ¬ M a) → Rs K Z' H' ds vs F
  | _, _, _, .nil, _ => .nil
  | _, _, _, .cons r rs, hf => .cons (R.keep k hz hm r fun a ha => hf a (List.mem_append_left _ ha)) (Rs.keep k hz hm rs fun a ha => hf a (List.mem_append_right _ ha))
end
theorem DcAt.tr {a : Addr} {t : Bool} {ks : List D} {vs : List V} (h : DcAt H a t ks vs) : H a ≠ none := by
  obtain ⟨o, h, r⟩ := h
  rw [h]
  intro z
  cases z
mutual
theorem R.tr : ∀ {d : D} {v : V} {F : List Addr}, R K Z H d v F → ∀ a ∈ F, H a ≠ none
  | _, _, _, .non, _, h => nomatch h
  | _, _, _, .bl b, _, h => nomatch h
  | _, _, _, .int i, _, h => nomatch h
  | _, _, _, .str s, _, h => nomatch h
  | _, _, _, .tup _ r, a, ha => Rs.tr r a ha
  | _, _, _, .own h r, a, ha => by
    rcases List.mem_cons.mp ha with rfl | ha
    · rw [h]; intro z; cases z
    · exact Rs.tr r a ha
  | _, _, _, .fzn _ _ _, _, h => nomatch h
  | _, _, _, .knw _ _, _, h => nomatch h
  | _, _, _, .dow h r, a, ha => by
    rcases List.mem_cons.mp ha with rfl | ha
    · exact h.tr
    · exact Rs.tr r a ha
  | _, _, _, .dfz _ _ _, _, h => nomatch h
  | _, _, _, .dlk _ _, _, h => nomatch h
  | _, _, _, .xt _ _ _ r, a, ha => Rs.tr r a ha
theorem Rs.tr : ∀ {ds : List D} {vs : List V} {F : List Addr}, Rs K Z H ds vs F → ∀ a ∈ F, H a ≠ none
  | _, _, _, .nil, _, h => nomatch h
  | _, _, _, .cons r rs, a, ha => by
    rcases List.mem_append.mp ha with ha | ha
    · exact R.tr r a ha
    · exact Rs.tr rs a ha
end
theorem noOwnP_eq : ∀ l : List (D × D), D.noOwnP l = D.noOwnL (l.map (·.2))
  | [] => rfl
  | (k, d) :: r => by
    show (D.noOwn d && D.noOwnP r) = (D.noOwn d && D.noOwnL (r.map (·.2)))
    rw [noOwnP_eq r]
theorem frzP_fst : ∀ l : List (D × D), (D.frzP l).map (·.1) = l.map (·.1)
  | [] => rfl
  | (k, d) :: r => by
    show k :: (D.frzP r).map (·.1) = k :: r.map (·.1)
    rw [frzP_fst r]
theorem frzP_snd : ∀ l : List (D × D), (D.frzP l).map (·.2) = D.frzL (l.map (·.2))
  | [] => rfl
  | (k, d) :: r => by
    show D.frz d :: (D.frzP r).map (·.2) = D.frz d :: D.frzL (r.map (·.2))
    rw [frzP_snd r]
mutual
theorem R.no : ∀ {d : D} {v : V} {F : List Addr}, R K Z H d v F → d.noOwn = true → F = []
  | _, _, _, .non, _ => rfl
  | _, _, _, .bl b, _ => rfl
  | _, _, _, .int i, _ => rfl
  | _, _, _, .str s, _ => rfl
  | _, _, _, .tup _ r, h => Rs.no r h
  | _, _, _, .own _ _, h => by simp [D.noOwn] at h
  | _, _, _, .fzn _ _ _, _ => rfl
  | _, _, _, .knw _ _, _ => rfl
  | _, _, _, .dow _ _, h => by simp [D.noOwn] at h
  | _, _, _, .dfz _ _ _, _ => rfl
  | _, _, _, .dlk _ _, _ => rfl
  | _, _, _, .xt _ _ _ r, h => Rs.no r h
theorem Rs.no : ∀ {ds : List D} {vs : List V} {F : List Addr}, Rs K Z H ds vs F → D.noOwnL ds = true → F = []
  | _, _, _, .nil, _ => rfl
  | _, _, _, .cons r rs, h => by
    have h : (D.noOwn _ && D.noOwnL _) = true := h
    rw [Bool.and_eq_true] at h
    rw [R.no r h.1, Rs.no rs h.2]
    rfl
end
mutual
/-- frozen: the owned things become things that stay -/
theorem R.freeze (hz : ∀ a, Z a → Z' a) : ∀ {d : D} {v : V} {F : List Addr}, R K Z H d v F → (∀ a ∈ F, Z' a) → R K Z' H d.frz v []
  | _, _, _, .non, _ => .non
  | _, _, _, .bl b, _ => .bl b
  | _, _, _, .int i, _ => .int i
  | _, _, _, .str s, _ => .str s
  | _, _, _, .tup h r, hf => .tup h (Rs.freeze hz r hf)
  | _, _, _, .own h r, hf => .fzn h (hf _ List.mem_cons_self) (Rs.freeze hz r fun a ha => hf a (List.mem_cons_of_mem _ ha))
  | _, _, _, .fzn h z r, hf => .fzn h (hz _ z) (Rs.freeze hz r hf)
  | _, _, _, .knw h r, hf => .knw h (Rs.freeze hz r hf)
  | _, _, _, .dow h r, hf => .dfz (by rw [frzP_fst]; exact h) (hf _ List.mem_cons_self) (by rw [frzP_snd]; exact Rs.freeze hz r fun a ha => hf a (List.mem_cons_of_mem _ ha))
  | _, _, _, .dfz h z r, hf => .dfz (by rw [frzP_fst]; exact h) (hz _ z) (by rw [frzP_snd]; exact Rs.freeze hz r hf)
  | _, _, _, .dlk h r, hf => .dlk (by rw [frzP_fst]; exact h) (by rw [frzP_snd]; exact Rs.freeze hz r hf)
  | _, _, _, .xt h h1 h2 r, hf => .xt h h1 h2 (Rs.freeze hz r hf)
theorem Rs.freeze (hz : ∀ a, Z a → Z' a) : ∀ {ds : List D} {vs : List V} {F : List Addr}, Rs K Z H ds vs F → (∀ a ∈ F, Z' a) → Rs K Z' H (D.frzL ds) vs []
  | _, _, _, .nil, _ => .nil
  | _, _, _, .cons r rs, hf => Rs.cons (F := []) (G := []) (R.freeze hz r fun a ha => hf a (List.mem_append_left _ ha)) (Rs.freeze hz rs fun a ha => hf a (List.mem_append_right _ ha))
end
theorem noFzP_eq : ∀ l : List (D × D), D.noFzP l = D.noFzL (l.map (·.2))
  | [] => rfl
  | (k, d) :: r => by
    show (D.noFz d && D.noFzP r) = (D.noFz d && D.noFzL (r.map (·.2)))
    rw [noFzP_eq r]
mutual
/-- without frozen things the known set does not matter -/
theorem R.any : ∀ {d : D} {v : V} {F : List Addr}, R K Z H d v F → d.noFz = true → R K Z' H d v F
  | _, _, _, .non, _ => .non
  | _, _, _, .bl b, _ => .bl b
  | _, _, _, .int i, _ => .int i
  | _, _, _, .str s, _ => .str s
  | _, _, _, .tup h r, hf => .tup h (Rs.any r hf)
  | _, _, _, .own h r, hf => .own h (Rs.any r (by simpa [D.noFz] using hf))
  | _, _, _, .fzn h z r, hf => by simp [D.noFz] at hf
  | _, _, _, .knw h r, hf => .knw h (Rs.any r (by simpa [D.noFz] using hf))
  | _, _, _, .dow h r, hf => .dow h (Rs.any r (by simpa [D.noFz, noFzP_eq] using hf))
  | _, _, _, .dfz h z r, hf => by simp [D.noFz] at hf
  | _, _, _, .dlk h r, hf => by simp [D.noFz] at hf
  | _, _, _, .xt h h1 h2 r, hf => .xt h h1 h2 (Rs.any r hf)
theorem Rs.any : ∀ {ds : List D} {vs : List V} {F : List Addr}, Rs K Z H ds vs F → D.noFzL ds = true → Rs K Z' H ds vs F
  | _, _, _, .nil, _ => .nil
  | _, _, _, .cons r rs, h => by
    have h : (D.noFz _ && D.noFzL _) = true := h
    rw [Bool.and_eq_true] at h
    exact .cons (R.any r h.1) (Rs.any rs h.2)
end
theorem Rs.length : ∀ {ds : List D} {vs : List V} {F : List Addr}, Rs K Z H ds vs F → ds.length = vs.length
  | _, _, _, .nil => rfl
  | _, _, _, .cons _ rs => congrArg (· + 1) rs.length
theorem Rs.get : ∀ {ds : List D} {vs : List V} {F : List Addr} {i : Nat} {d : D}, Rs K Z H ds vs F → ds[i]? = some d → ∃ v G, vs[i]? = some v ∧ R K Z H d v G ∧ ∀ a ∈ G, a ∈ F
  | _, _, _, _, _, .nil, e => by simp at e
  | _, _, _, 0, _, .cons r rs, e => by
    simp at e; subst e
    exact ⟨_, _, rfl, r, fun a ha => List.mem_append_left _ ha⟩
  | _, _, _, i + 1, d, .cons r rs, e => by
    obtain ⟨v, G, h1, h2, h3⟩ := Rs.get (i := i) (d := d) rs (by simpa using e)
    exact ⟨v, G, by simpa using h1, h2, fun a ha => List.mem_append_right _ (h3 a ha)⟩
theorem Rs.app : ∀ {ds es : List D} {vs ws : List V} {F G : List Addr}, Rs K Z H ds vs F → Rs K Z H es ws G → Rs K Z H (ds ++ es) (vs ++ ws) (F ++ G)
  | _, _, _, _, _, _, .nil, s => s
  | _, _, _, _, _, _, .cons r rs, s => by
    rw [List.append_assoc]
    exact .cons r (rs.app s)
theorem Rs.one {d : D} {v : V} {F : List Addr} (r : R K Z H d v F) : Rs K Z H [d] [v] F := by
  have e := Rs.cons r Rs.nil
  rwa [List.append_nil] at e
theorem Rs.nil_of {ds : List D} {vs : List V} {F : List Addr} (r : Rs K Z H ds vs F) (h : D.noOwnL ds = true) : Rs K Z H ds vs [] := by
  have e := Rs.no r h
  subst e
  exact r
theorem Rs.cons0 {d : D} {ds : List D} {v : V} {vs : List V} (r : R K Z H d v []) (rs : Rs K Z H ds vs []) : Rs K Z H (d :: ds) (v :: vs) [] := Rs.cons (F := []) (G := []) r rs
theorem Rs.uncons {d : D} {ds : List D} {vs : List V} {F : List Addr} (r : Rs K Z H (d :: ds) vs F) : ∃ v ws F1 F2, vs = v :: ws ∧ F = F1 ++ F2 ∧ R K Z H d v F1 ∧ Rs K Z H ds ws F2 := by
  cases r with
  | cons r rs => exact ⟨_, _, _, _, rfl, rfl, r, rs⟩
end
namespace D
mutual
/-- an exact tuple is a tuple -/
def fg : D → D
  | .tup l => .tup (fgL l)
  | .lst o l => .lst o (fgL l)
  | .dct o t l => .dct o t (fgP l)
  | .scr l => .scr (fgL l)
  | .xt l => .xt (fgL l)
  | .non => .non
  | .bl b => .bl b
  | .int i => .int i
  | .str s => .str s
def fgL : List D → List D
  | [] => []
  | d :: r => fg d :: fgL r
def fgP : List (D × D) → List (D × D)
  | [] => []
  | (k, d) :: r => (k, fg d) :: fgP r
end
end D
theorem fgP_fst : ∀ l : List (D × D), (D.fgP l).map (·.1) = l.map (·.1)
  | [] => rfl
  | (k, d) :: r => congrArg (k :: ·) (fgP_fst r)
theorem fgP_snd : ∀ l : List (D × D), (D.fgP l).map (·.2) = D.fgL (l.map (·.2))
  | [] => rfl
  | (k, d) :: r => congrArg (D.fg d :: ·) (fgP_snd r)
section
variable {K : PySem.W.Frag} {Z : Addr → Prop} {H : Hp}
mutual
theorem R.fg : ∀ {d : D} {v : V} {F : List Addr}, R K Z H d v F → R K Z H d.fg v F
  | _, _, _, .non => .non
  | _, _, _, .bl b => .bl b
  | _, _, _, .int i => .int i
  | _, _, _, .str s => .str s
  | _, _, _, .tup h r => .tup h (Rs.fg r)
  | _, _, _, .own h r => .own h (Rs.fg r)
  | _, _, _, .fzn h z r => .fzn h z (Rs.fg r)
  | _, _, _, .knw h r => .knw h (Rs.fg r)
  | _, _, _, .dow h r => .dow (by rw [fgP_fst]; exact h) (by rw [fgP_snd]; exact Rs.fg r)
  | _, _, _, .dfz h z r => .dfz (by rw [fgP_fst]; exact h) z (by rw [fgP_snd]; exact Rs.fg r)
  | _, _, _, .dlk h r => .dlk (by rw [fgP_fst]; exact h) (by rw [fgP_snd]; exact Rs.fg r)
  | _, _, _, .xt h h1 h2 r => .xt h h1 h2 (Rs.fg r)
theorem Rs.fg : ∀ {ds : List D} {vs : List V} {F : List Addr}, Rs K Z H ds vs F → Rs K Z H (D.fgL ds) vs F
  | _, _, _, .nil => .nil
  | _, _, _, .cons r rs => .cons (R.fg r) (Rs.fg rs)
end
end
end Vl

namespace Vl
open PySem PySem.Spec PyProof.Rows L2

abbrev Ft := Nat → List Addr
/-- the slots' data: each owned thing has one holder -/
structure Rel (K : PySem.W.Frag) (Z : Addr → Prop) (ρ : Env) (σ : L2.St) (H : Hp) (Fs : Ft) : Prop where
  at_ : ∀ i d, ρ[i]? = some (some d) → ∃ v, σ[i]? = some (some v) ∧ R K Z H d v (Fs i)
  nd : ∀ i, (Fs i).Nodup
  dj : ∀ i j a, a ∈ Fs i → a ∈ Fs j → i = j
  nz : ∀ i a, a ∈ Fs i → ¬ Z a
  zt : ∀ a, Z a → H a ≠ none
  ft : ∀ i a, a ∈ Fs i → H a ≠ none
  len : ρ.length = σ.length

/-- what a step may touch: the slots T -/
structure Frm (T : List Nat) (Z : Addr → Prop) (ρ : Env) (Fs : Ft) (H : Hp) (Z' : Addr → Prop) (ρ' : Env) (Fs' : Ft) (H' : Hp) : Prop where
  sub : ∀ j, j ∉ T → Fs' j = Fs j ∧ ρ'[j]? = ρ[j]?
  keep : Keep (fun a => ∃ j ∈ T, a ∈ Fs j) H H'
  c1 : ∀ j ∈ T, ∀ a ∈ Fs' j, (∃ i ∈ T, a ∈ Fs i) ∨ H a = none
  c3 : ∀ a, Z' a → Z a ∨ (∃ i ∈ T, a ∈ Fs i) ∨ H a = none
  zz : ∀ a, Z a → Z' a
  len : ρ'.length = ρ.length

structure Val (K : PySem.W.Frag) (Z : Addr → Prop) (H : Hp) (Fs : Ft) (O : List Nat) (x : Bool) (d : D) (v : V) (F : List Addr) : Prop where
  r : R K Z H d v F
  ori : ∀ j a, a ∈ F → a ∈ Fs j → j ∈ O
  exc : x = true → F.Nodup ∧ ∀ a ∈ F, ¬ Z a
structure Vls (K : PySem.W.Frag) (Z : Addr → Prop) (H : Hp) (Fs : Ft) (O : List Nat) (x : Bool) (ds : List D) (vs : List V) (F : List Addr) : Prop where
  r : Rs K Z H ds vs F
  ori : ∀ j a, a ∈ F → a ∈ Fs j → j ∈ O
  exc : x = true → F.Nodup ∧ ∀ a ∈ F, ¬ Z a
/-- where an exclusive value's things come from -/
def Cf (T : List Nat) (Fs : Ft) (H : Hp) (x : Bool) (F : List Addr) : Prop := x = true → ∀ a ∈ F, (∃ j ∈ T, a ∈ Fs j) ∨ H a = none

def safe (O T : List Nat) (d : D) : Bool := O.all (fun i => !T.contains i) || d.noOwn
def safeL (O T : List Nat) (ds : List D) : Bool := O.all (fun i => !T.contains i) || D.noOwnL ds

section
variable {T T1 T2 O O1 O2 : List Nat} {K : PySem.W.Frag} {Z Z' Z1 Z2 : Addr → Prop} {ρ ρ' ρ1 ρ2 : Env} {Fs Fs' Fs1 Fs2 : Ft} {H H' H1 H2 : Hp} {x : Bool} {d : D} {v : V} {F : List Addr} {σ : L2.St}
theorem Frm.refl (T : List Nat) : Frm T Z ρ Fs H Z ρ Fs H := ⟨fun _ _ => ⟨rfl, rfl⟩, Keep.refl _ _, fun j hj a ha => .inl ⟨j, hj, ha⟩, fun _ h => .inl h, fun _ h => h, rfl⟩
theorem Frm.trans (f1 : Frm T1 Z ρ Fs H Z1 ρ1 Fs1 H1) (f2 : Frm T2 Z1 ρ1 Fs1 H1 Z2 ρ2 Fs2 H2) : Frm (T1 ++ T2) Z ρ Fs H Z2 ρ2 Fs2 H2 := by
  have up1 : ∀ {a}, (∃ i ∈ T1, a ∈ Fs i) → ∃ i ∈ T1 ++ T2, a ∈ Fs i := fun ⟨i, hi, ha⟩ => ⟨i, List.mem_append_left _ hi, ha⟩
  have mid : ∀ {a}, (∃ i ∈ T2, a ∈ Fs1 i) → (∃ i ∈ T1 ++ T2, a ∈ Fs i) ∨ H a = none := fun {a} ⟨i, hi, ha⟩ => by
    by_cases h : i ∈ T1
    · exact (f1.c1 i h a ha).imp up1 id
    · rw [(f1.sub i h).1] at ha
      exact .inl ⟨i, List.mem_append_right _ hi, ha⟩
  refine ⟨fun j hj => ?_, f1.keep.trans f2.keep (fun a h => up1 h) fun a h => mid h, fun j hj a ha => ?_, fun a h => ?_, fun a h => f2.zz a (f1.zz a h), f2.len.trans f1.len⟩
  · have h1 : j ∉ T1 := fun z => hj (List.mem_append_left _ z)
    have h2 : j ∉ T2 := fun z => hj (List.mem_append_right _ z)
    exact ⟨(f2.sub j h2).1.trans (f1.sub j h1).1, (f2.sub j h2).2.trans (f1.sub j h1).2⟩
  · by_cases h2 : j ∈ T2
    · rcases f2.c1 j h2 a ha with h | h
      · exact mid h
      · exact .inr (f1.keep.back h)
    · rw [(f2.sub j h2).1] at ha
      rcases List.mem_append.mp hj with h1 | h1
      · exact (f1.c1 j h1 a ha).imp up1 id
      · exact absurd h1 h2
  · rcases f2.c3 a h with h | h | h
    · exact (f1.c3 a h).imp id fun h => h.imp up1 id
    · exact .inr (mid h)
    · exact .inr (.inr (f1.keep.back h))
theorem Frm.mono (f : Frm T Z ρ Fs H Z' ρ' Fs' H') (h : ∀ i ∈ T, i ∈ T1) : Frm T1 Z ρ Fs H Z' ρ' Fs' H' := by
  have up : ∀ {a}, (∃ i ∈ T, a ∈ Fs i) → ∃ i ∈ T1, a ∈ Fs i := fun ⟨i, hi, ha⟩ => ⟨i, h i hi, ha⟩
  refine ⟨fun j hj => f.sub j fun z => hj (h j z), f.keep.mono fun a z => up z, fun j hj a ha => ?_, fun a z => (f.c3 a z).imp id fun z => z.imp up id, f.zz, f.len⟩
  by_cases q : j ∈ T
  · exact (f.c1 j q a ha).imp up id
  · rw [(f.sub j q).1] at ha
    exact .inl ⟨j, hj, ha⟩
/-- a pure step -/
theorem Frm.pure (k : Keep M0 H H') : Frm [] Z ρ Fs H Z ρ Fs H' :=
  ⟨fun _ _ => ⟨rfl, rfl⟩, k.mono fun _ h => h.elim, fun _ h => (by cases h), fun _ h => .inl h, fun _ h => h, rfl⟩
theorem Frm.pureT (T : List Nat) (k : Keep M0 H H') : Frm T Z ρ Fs H Z ρ Fs H' := (Frm.pure k).mono fun _ h => (by cases h)

theorem safe_or (h : safe O T d = true) : (∀ i ∈ O, i ∉ T) ∨ d.noOwn = true := by
  unfold safe at h
  rw [Bool.or_eq_true] at h
  refine h.imp (fun h i hi ht => ?_) id
  have := List.all_eq_true.mp h i hi
  simp [ht] at this
theorem safeL_or {ds : List D} (h : safeL O T ds = true) : (∀ i ∈ O, i ∉ T) ∨ D.noOwnL ds = true := by
  unfold safeL at h
  rw [Bool.or_eq_true] at h
  refine h.imp (fun h i hi ht => ?_) id
  have := List.all_eq_true.mp h i hi
  simp [ht] at this
/-- things outside of what a step touches -/
theorem Frm.far (f : Frm T Z ρ Fs H Z' ρ' Fs' H') (ho : ∀ j a, a ∈ F → a ∈ Fs j → j ∈ O) (hs : ∀ i ∈ O, i ∉ T) : ∀ a ∈ F, ¬ ∃ j ∈ T, a ∈ Fs j := fun a ha ⟨j, hj, hf⟩ => hs j (ho j a ha hf) hj
/-- a value stays through a later step -/
theorem Val.keep (w : Val K Z H Fs O x d v F) (rel : Rel K Z ρ σ H Fs) (f : Frm T Z ρ Fs H Z' ρ' Fs' H') (hs : safe O T d = true) : Val K Z' H' Fs' O x d v F := by
  rcases safe_or hs with hs | hn
  · have far := f.far w.ori hs
    have tr := w.r.tr
    refine ⟨w.r.keep f.keep f.zz (fun a z ⟨j, hj, ha⟩ => rel.nz j a ha z) far, fun j a ha hj => ?_, fun hx => ⟨(w.exc hx).1, fun a ha z => ?_⟩⟩
    · by_cases h : j ∈ T
      · rcases f.c1 j h a hj with q | q
        · exact absurd q (far a ha)
        · exact absurd q (tr a ha)
      · rw [(f.sub j h).1] at hj
        exact w.ori j a ha hj
    · rcases f.c3 a z with q | q | q
      · exact (w.exc hx).2 a ha q
      · exact far a ha q
      · exact tr a ha q
  · have e := w.r.no hn
    subst e
    exact ⟨w.r.keep f.keep f.zz (fun a z ⟨j, hj, ha⟩ => rel.nz j a ha z) (fun a h => (by cases h)), fun j a ha => (by cases ha), fun _ => ⟨List.nodup_nil, fun a ha => (by cases ha)⟩⟩
theorem Vls.keep {ds : List D} {vs : List V} (w : Vls K Z H Fs O x ds vs F) (rel : Rel K Z ρ σ H Fs) (f : Frm T Z ρ Fs H Z' ρ' Fs' H') (hs : safeL O T ds = true) : Vls K Z' H' Fs' O x ds vs F := by
  rcases safeL_or hs with hs | hn
  · have far := f.far w.ori hs
    have tr := w.r.tr
    refine ⟨w.r.keep f.keep f.zz (fun a z ⟨j, hj, ha⟩ => rel.nz j a ha z) far, fun j a ha hj => ?_, fun hx => ⟨(w.exc hx).1, fun a ha z => ?_⟩⟩
    · by_cases h : j ∈ T
      · rcases f.c1 j h a hj with q | q
        · exact absurd q (far a ha)
        · exact absurd q (tr a ha)
      · rw [(f.sub j h).1] at hj
        exact w.ori j a ha hj
    · rcases f.c3 a z with q | q | q
      · exact (w.exc hx).2 a ha q
      · exact far a ha q
      · exact tr a ha q
  · have e := w.r.no hn
    subst e
    exact ⟨w.r.keep f.keep f.zz (fun a z ⟨j, hj, ha⟩ => rel.nz j a ha z) (fun a h => (by cases h)), fun j a ha => (by cases ha), fun _ => ⟨List.nodup_nil, fun a ha => (by cases ha)⟩⟩
/-- the slots through a pure step -/
theorem Rel.keep0 (r : Rel K Z ρ σ H Fs) (k : Keep M0 H H') : Rel K Z ρ σ H' Fs :=
  ⟨fun i d e => let ⟨v, h1, h2⟩ := r.at_ i d e; ⟨v, h1, h2.keep k (fun _ h => h) (fun _ _ h => h) fun _ _ h => h⟩, r.nd, r.dj, r.nz, fun a h => k.dom a (r.zt a h), fun i a h => k.dom a (r.ft i a h), r.len⟩
end

/-! ### the judgements -/
abbrev M (α : Type) := Env → Option (α × Env)
def tV (K : PySem.W.Frag) (T O : List Nat) (x : Bool) (f : M D) : TE := fun σ H Q => ∃ Z ρ Fs d ρ', Rel K Z ρ σ H Fs ∧ f ρ = some (d, ρ') ∧
  ∀ v H' Z' Fs' F, Rel K Z' ρ' σ H' Fs' → Frm T Z ρ Fs H Z' ρ' Fs' H' → Val K Z' H' Fs' O x d v F → Cf T Fs H x F → Q v H'
def tVL (K : PySem.W.Frag) (T O : List Nat) (x : Bool) (f : M (List D)) : TA := fun σ H Q => ∃ Z ρ Fs ds ρ', Rel K Z ρ σ H Fs ∧ f ρ = some (ds, ρ') ∧
  ∀ vs H' Z' Fs' F, Rel K Z' ρ' σ H' Fs' → Frm T Z ρ Fs H Z' ρ' Fs' H' → Vls K Z' H' Fs' O x ds vs F → Cf T Fs H x F → Q vs H'
def tVT (K : PySem.W.Frag) (T : List Nat) (f : M Bool) : TT := fun σ H Q => ∃ Z ρ Fs b ρ', Rel K Z ρ σ H Fs ∧ f ρ = some (b, ρ') ∧
  ∀ H' Z' Fs', Rel K Z' ρ' σ H' Fs' → Frm T Z ρ Fs H Z' ρ' Fs' H' → Q b H'
abbrev PEV (X : Cx) (T O : List Nat) (x : Bool) (e : Expr) (f : M D) : Prop := PE X e (tV X.K T O x f)
abbrev PAV (X : Cx) (T O : List Nat) (x : Bool) (es : List Expr) (f : M (List D)) : Prop := PA X es (tVL X.K T O x f)
abbrev PTV (X : Cx) (T : List Nat) (e : Expr) (f : M Bool) : Prop := PT X e (tVT X.K T f)

theorem PE.imp {X : Cx} {e : Expr} {t t' : TE} (h : PE X e t) (i : ∀ σ H Q, t' σ H Q → t σ H Q) : PE X e t' := ⟨fun pins s σ H Q I q => h.run pins s σ H Q I (i σ H Q q)⟩
theorem PT.imp {X : Cx} {e : Expr} {t t' : TT} (h : PT X e t) (i : ∀ σ H Q, t' σ H Q → t σ H Q) : PT X e t' := ⟨fun pins s σ H Q I q => h.run pins s σ H Q I (i σ H Q q)⟩
theorem PW.imp {X : Cx} {e : Expr} {t t' : TT} (h : PW X e t) (i : ∀ σ H Q, t' σ H Q → t σ H Q) : PW X e t' := ⟨fun wh pins s σ H Q I q => h.run wh pins s σ H Q I (i σ H Q q)⟩
theorem PA.imp {X : Cx} {e : List Expr} {t t' : TA} (h : PA X e t) (i : ∀ σ H Q, t' σ H Q → t σ H Q) : PA X e t' := ⟨fun p pins s σ H Q I q => h.run p pins s σ H Q I (i σ H Q q)⟩
theorem PS.imp {X : Cx} {e : Stmt} {t t' : TS} (h : PS X e t) (i : ∀ D σ H, t' D σ H → t D σ H) : PS X e t' := ⟨fun pins s σ H D I q => h.run pins s σ H D I (i D σ H q)⟩
theorem PSs.imp {X : Cx} {e : List Stmt} {t t' : TS} (h : PSs X e t) (i : ∀ D σ H, t' D σ H → t D σ H) : PSs X e t' := ⟨fun pins s σ H D I q => h.run pins s σ H D I (i D σ H q)⟩
end Vl

namespace Vl
open PySem PySem.Spec PyProof.Rows L2

def Env.at (ρ : Env) (i : Nat) : Option D := match ρ[i]? with
  | some (some d) => some d
  | _ => none
theorem Env.at_some {ρ : Env} {i : Nat} {d : D} (h : Env.at ρ i = some d) : ρ[i]? = some (some d) := by
  unfold Env.at at h
  split at h
  · rename_i e q
    cases h
    exact q
  · cases h
theorem Env.lt {ρ : Env} {i : Nat} {o : Option D} (h : ρ[i]? = some o) : i < ρ.length := (List.getElem?_eq_some_iff.mp h).1

def fVar (i : Nat) : M D := fun ρ => (Env.at ρ i).bind fun d => some (d, ρ)
def fVal (i : Nat) : M D := fun ρ => (Env.at ρ i).bind fun d => if d.noOwn = true then some (d, ρ) else none
def fMov (i : Nat) : M D := fun ρ => (Env.at ρ i).bind fun d => some (d, ρ.set i none)
def fAli (i : Nat) : M D := fun ρ => (Env.at ρ i).bind fun d => if d.noOwn = true then some (d, ρ) else some (d.frz, ρ.set i (some d.frz))
def fC (d : D) : M D := fun ρ => some (d, ρ)
def chk (f : M D) : M D := fun ρ => (f ρ).bind fun p => if p.1.noOwn = true then some p else none
def fOp (O1 T2 : List Nat) (g : D → D → Option D) (fa fb : M D) : M D := fun ρ => (fa ρ).bind fun p => (fb p.2).bind fun q => if safe O1 T2 p.1 = true then (g p.1 q.1).bind fun d => some (d, q.2) else none
def fUn (g : D → Option D) (fa : M D) : M D := fun ρ => (fa ρ).bind fun p => (g p.1).bind fun d => some (d, p.2)
def fNil : M (List D) := fun ρ => some ([], ρ)
def fCons (O1 T2 : List Nat) (fa : M D) (fr : M (List D)) : M (List D) := fun ρ => (fa ρ).bind fun p => (fr p.2).bind fun q => if safe O1 T2 p.1 = true then some (p.1 :: q.1, q.2) else none

section
variable {X : Cx} {T T1 T2 O O1 O2 : List Nat} {x x1 x2 : Bool} {a b c e : Expr} {es : List Expr} {fa fb fc f : M D} {fr : M (List D)} {pos : Pos}

theorem Val.imm {K : PySem.W.Frag} {Z : Addr → Prop} {H : Hp} {Fs : Ft} {d : D} {v : V} {F : List Addr} (r : R K Z H d v F) (h : d.noOwn = true) : Val K Z H Fs [] true d v [] := by
  have e := r.no h
  subst e
  exact ⟨r, fun _ _ h => (by cases h), fun _ => ⟨List.nodup_nil, fun _ h => (by cases h)⟩⟩
theorem Cf.nil {T : List Nat} {Fs : Ft} {H : Hp} {x : Bool} : Cf T Fs H x [] := fun _ _ h => (by cases h)

/-! ### names -/
theorem pev_var (i : Nat) {y : Str} (hN : X.N[i]? = some y := by rfl) (hv : Vis X.env.scope y := by first | exact Or.inl rfl | exact Or.inr (Or.inl rfl) | exact Or.inr (Or.inr rfl)) (hd : (y == ("__debug__" : Str)) = false := by decide)
    (hcd : (y == ("__classdict__" : Str)) = false := by decide) : PEV X [] [i] false (.Name y pos) (fVar i) := by
  refine PE.imp (pe_var hN hv hd hcd) fun σ H Q h => ?_
  obtain ⟨Z, ρ, Fs, d, ρ', rel, hf, q⟩ := h
  unfold fVar at hf
  obtain ⟨d', hd', hf⟩ := Option.bind_eq_some_iff.mp hf
  cases hf
  obtain ⟨v, hs, r⟩ := rel.at_ i d (Env.at_some hd')
  exact ⟨v, hs, q v H Z Fs (Fs i) rel (Frm.refl _) ⟨r, fun j a h1 h2 => by rw [rel.dj i j a h1 h2]; exact List.mem_cons_self, fun h => (by cases h)⟩ fun h => (by cases h)⟩
theorem pev_chk (h : PEV X T O x e f) : PEV X T [] true e (chk f) := by
  refine PE.imp h fun σ H Q h => ?_
  obtain ⟨Z, ρ, Fs, d, ρ', rel, hf, q⟩ := h
  unfold chk at hf
  obtain ⟨p, hp, hf⟩ := Option.bind_eq_some_iff.mp hf
  split at hf
  · rename_i hn
    cases hf
    refine ⟨Z, ρ, Fs, d, ρ', rel, hp, fun v H' Z' Fs' F r' f' w cf => ?_⟩
    exact q v H' Z' Fs' [] r' f' (Val.imm w.r hn) Cf.nil
  · cases hf
theorem pev_val (i : Nat) {y : Str} (hN : X.N[i]? = some y := by rfl) (hv : Vis X.env.scope y := by first | exact Or.inl rfl | exact Or.inr (Or.inl rfl) | exact Or.inr (Or.inr rfl)) (hd : (y == ("__debug__" : Str)) = false := by decide)
    (hcd : (y == ("__classdict__" : Str)) = false := by decide) : PEV X [] [] true (.Name y pos) (fVal i) := by
  refine PE.imp (pev_chk (pev_var i hN hv hd hcd)) fun σ H Q h => ?_
  obtain ⟨Z, ρ, Fs, d, ρ', rel, hf, q⟩ := h
  refine ⟨Z, ρ, Fs, d, ρ', rel, ?_, q⟩
  unfold fVal at hf
  obtain ⟨d', hd', hf⟩ := Option.bind_eq_some_iff.mp hf
  unfold chk fVar
  rw [hd']
  split at hf
  · rename_i hn
    cases hf
    simp [hn]
  · cases hf
theorem Rel.drop {K : PySem.W.Frag} {Z : Addr → Prop} {ρ : Env} {σ : L2.St} {H : Hp} {Fs : Ft} (rel : Rel K Z ρ σ H Fs) (i : Nat) : Rel K Z (ρ.set i none) σ H (fun j => if j = i then [] else Fs j) := by
  refine ⟨fun j d e => ?_, fun j => ?_, fun j k a h1 h2 => ?_, fun j a h => ?_, rel.zt, fun j a h => ?_, by rw [List.length_set]; exact rel.len⟩
  · by_cases q : j = i
    · subst q
      by_cases hl : j < ρ.length
      · rw [List.getElem?_set_self hl] at e; cases e
      · rw [List.getElem?_eq_none (by simpa using hl)] at e; cases e
    · rw [List.getElem?_set_ne (Ne.symm q)] at e
      simp only [if_neg q]
      exact rel.at_ j d e
  · by_cases q : j = i
    · simp only [if_pos q]; exact List.nodup_nil
    · simp only [if_neg q]; exact rel.nd j
  · by_cases q : j = i
    · simp only [if_pos q] at h1; cases h1
    · by_cases p : k = i
      · simp only [if_pos p] at h2; cases h2
      · simp only [if_neg q] at h1
        simp only [if_neg p] at h2
        exact rel.dj j k a h1 h2
  · by_cases q : j = i
    · simp only [if_pos q] at h; cases h
    · simp only [if_neg q] at h; exact rel.nz j a h
  · by_cases q : j = i
    · simp only [if_pos q] at h; cases h
    · simp only [if_neg q] at h; exact rel.ft j a h
theorem Frm.drop {Z : Addr → Prop} {ρ : Env} {Fs : Ft} {H : Hp} (i : Nat) : Frm [i] Z ρ Fs H Z (ρ.set i none) (fun j => if j = i then [] else Fs j) H := by
  refine ⟨fun j hj => ?_, Keep.refl _ _, fun j hj a ha => ?_, fun a h => .inl h, fun a h => h, by rw [List.length_set]⟩
  · have q : j ≠ i := fun e => hj (by rw [e]; exact List.mem_cons_self)
    exact ⟨if_neg q, List.getElem?_set_ne (Ne.symm q)⟩
  · have e : j = i := by simpa using hj
    subst e
    simp at ha
/-- the slot gives its value away -/
theorem pev_mov (i : Nat) {y : Str} (hN : X.N[i]? = some y := by rfl) (hv : Vis X.env.scope y := by first | exact Or.inl rfl | exact Or.inr (Or.inl rfl) | exact Or.inr (Or.inr rfl)) (hd : (y == ("__debug__" : Str)) = false := by decide)
    (hcd : (y == ("__classdict__" : Str)) = false := by decide) : PEV X [i] [] true (.Name y pos) (fMov i) := by
  refine PE.imp (pe_var hN hv hd hcd) fun σ H Q h => ?_
  obtain ⟨Z, ρ, Fs, d, ρ', rel, hf, q⟩ := h
  unfold fMov at hf
  obtain ⟨d', hd', hf⟩ := Option.bind_eq_some_iff.mp hf
  cases hf
  obtain ⟨v, hs, r⟩ := rel.at_ i d (Env.at_some hd')
  refine ⟨v, hs, q v H Z _ (Fs i) (rel.drop i) (Frm.drop i) ⟨r, fun j a h1 h2 => ?_, fun _ => ⟨rel.nd i, fun a h => rel.nz i a h⟩⟩ fun _ a h => .inl ⟨i, List.mem_cons_self, h⟩⟩
  by_cases p : j = i
  · simp [p] at h2
  · simp only [if_neg p] at h2
    exact absurd (rel.dj i j a h1 h2).symm p
/-- the slot shares its value: it is frozen -/
theorem pev_ali (i : Nat) {y : Str} (hN : X.N[i]? = some y := by rfl) (hv : Vis X.env.scope y := by first | exact Or.inl rfl | exact Or.inr (Or.inl rfl) | exact Or.inr (Or.inr rfl)) (hd : (y == ("__debug__" : Str)) = false := by decide)
    (hcd : (y == ("__classdict__" : Str)) = false := by decide) : PEV X [i] [] true (.Name y pos) (fAli i) := by
  refine PE.imp (pe_var hN hv hd hcd) fun σ H Q h => ?_
  obtain ⟨Z, ρ, Fs, d, ρ', rel, hf, q⟩ := h
  unfold fAli at hf
  obtain ⟨d', hd', hf⟩ := Option.bind_eq_some_iff.mp hf
  have ha := Env.at_some hd'
  obtain ⟨v, hs, r⟩ := rel.at_ i d' ha
  refine ⟨v, hs, ?_⟩
  split at hf
  · rename_i hn
    cases hf
    have e := r.no hn
    exact q v H Z Fs [] rel (Frm.refl _) (Val.imm r hn) Cf.nil
  · cases hf
    have hl := Env.lt ha
    have r2 : R X.K (fun a => Z a ∨ a ∈ Fs i) H d'.frz v [] := r.freeze (fun _ h => .inl h) fun a h => .inr h
    refine q v H (fun a => Z a ∨ a ∈ Fs i) (fun j => if j = i then [] else Fs j) [] ⟨fun j d e => ?_, (rel.drop i).nd, (rel.drop i).dj, fun j a h z => ?_, fun a h => ?_, (rel.drop i).ft, by rw [List.length_set]; exact rel.len⟩
      ⟨fun j hj => ?_, Keep.refl _ _, fun j hj a h => ?_, fun a h => ?_, fun a h => .inl h, by rw [List.length_set]⟩ ⟨r2, fun j a h => (by cases h), fun _ => ⟨List.nodup_nil, fun a h => (by cases h)⟩⟩ Cf.nil
    · by_cases p : j = i
      · subst p
        rw [List.getElem?_set_self hl] at e
        cases e
        simp only [if_pos rfl]
        exact ⟨v, hs, r2⟩
      · rw [List.getElem?_set_ne (Ne.symm p)] at e
        simp only [if_neg p]
        obtain ⟨v', h1, h2⟩ := rel.at_ j d e
        exact ⟨v', h1, h2.keep (Keep.refl M0 H) (fun _ h => .inl h) (fun _ _ h => h) fun _ _ h => h⟩
    · by_cases p : j = i
      · simp [p] at h
      · simp only [if_neg p] at h
        rcases z with z | z
        · exact rel.nz j a h z
        · exact p (rel.dj j i a h z)
    · rcases h with h | h
      · exact rel.zt a h
      · exact rel.ft i a h
    · have p : j ≠ i := fun e => hj (by rw [e]; exact List.mem_cons_self)
      exact ⟨if_neg p, List.getElem?_set_ne (Ne.symm p)⟩
    · have e : j = i := by simpa using hj
      subst e
      simp at h
    · rcases h with h | h
      · exact .inl h
      · exact .inr (.inl ⟨i, List.mem_cons_self, h⟩)
end
end Vl

namespace Vl
open PySem PySem.Spec PyProof.Rows L2

/-- a two-place operation on data, its answer new -/
def OpS (K : PySem.W.Frag) (r : R2) (g : D → D → Option D) : Prop := ∀ (Z : Addr → Prop) (H : Hp) (d1 d2 : D) (v1 v2 : V) (F1 F2 : List Addr) (d : D) (Q : VK), R K Z H d1 v1 F1 → R K Z H d2 v2 F2 → g d1 d2 = some d →
  (∀ v H' F, Keep M0 H H' → R K Z H' d v F → F.Nodup → (∀ a ∈ F, H a = none) → Q v H') → r v1 v2 H Q
/-- its answer a part of the first -/
def OpW (K : PySem.W.Frag) (r : R2) (g : D → D → Option D) : Prop := ∀ (Z : Addr → Prop) (H : Hp) (d1 d2 : D) (v1 v2 : V) (F1 F2 : List Addr) (d : D) (Q : VK), R K Z H d1 v1 F1 → R K Z H d2 v2 F2 → g d1 d2 = some d →
  (∀ v H' F, Keep M0 H H' → R K Z H' d v F → (∀ a ∈ F, a ∈ F1) → Q v H') → r v1 v2 H Q
def UnS (K : PySem.W.Frag) (r : V → Hp → VK → Prop) (g : D → Option D) : Prop := ∀ (Z : Addr → Prop) (H : Hp) (d1 : D) (v1 : V) (F1 : List Addr) (d : D) (Q : VK), R K Z H d1 v1 F1 → g d1 = some d →
  (∀ v H' F, Keep M0 H H' → R K Z H' d v F → F.Nodup → (∀ a ∈ F, H a = none) → Q v H') → r v1 H Q
def ClS (K : PySem.W.Frag) (r : List V → Hp → VK → Prop) (g : List D → Option D) : Prop := ∀ (Z : Addr → Prop) (H : Hp) (ds : List D) (vs : List V) (F1 : List Addr) (d : D) (Q : VK), Rs K Z H ds vs F1 → g ds = some d →
  (∀ v H' F, Keep M0 H H' → R K Z H' d v F → F.Nodup → (∀ a ∈ F, H a = none) → Q v H') → r vs H Q

section
variable {K : PySem.W.Frag} {Z Z' Z1 Z2 : Addr → Prop} {ρ ρ' ρ1 ρ2 : Env} {Fs Fs' Fs1 Fs2 : Ft} {H H' H1 H2 : Hp} {T T1 T2 O O1 O2 : List Nat} {x : Bool} {d : D} {v : V} {F : List Addr} {σ : L2.St}
/-- a new value -/
theorem Val.new (rel : Rel K Z ρ σ H Fs) (r : R K Z H' d v F) (nd : F.Nodup) (nw : ∀ a ∈ F, H a = none) : Val K Z H' Fs [] true d v F :=
  ⟨r, fun j a h1 h2 => absurd (nw a h1) (rel.ft j a h2), fun _ => ⟨nd, fun a h z => rel.zt a z (nw a h)⟩⟩
theorem Cf.new {Fs0 : Ft} {H0 : Hp} {M : Addr → Prop} (k : Keep M H0 H) (nw : ∀ a ∈ F, H a = none) : Cf T Fs0 H0 x F := fun _ a h => .inr (k.back (nw a h))
theorem Cf.mono (h : Cf T Fs H x F) (i : ∀ j ∈ T, j ∈ T1) : Cf T1 Fs H x F := fun hx a ha => (h hx a ha).imp (fun ⟨j, hj, q⟩ => ⟨j, i j hj, q⟩) id
/-- a value that a second step made, told from the start -/
theorem Cf.late (f1 : Frm T1 Z ρ Fs H Z1 ρ1 Fs1 H1) (h : Cf T2 Fs1 H1 x F) : Cf (T1 ++ T2) Fs H x F := fun hx a ha => by
  rcases h hx a ha with ⟨j, hj, q⟩ | q
  · by_cases h1 : j ∈ T1
    · exact (f1.c1 j h1 a q).imp (fun ⟨i, hi, z⟩ => ⟨i, List.mem_append_left _ hi, z⟩) id
    · rw [(f1.sub j h1).1] at q
      exact .inl ⟨j, List.mem_append_right _ hj, q⟩
  · exact .inr (f1.keep.back q)
theorem Cf.early (h : Cf T1 Fs H x F) : Cf (T1 ++ T2) Fs H x F := h.mono fun j hj => List.mem_append_left _ hj
end

section
variable {X : Cx} {T T1 T2 T3 O O1 O2 O3 : List Nat} {x x1 x2 x3 : Bool} {a b c e : Expr} {es : List Expr} {fa fb fc f : M D} {fr : M (List D)} {pos : Pos} {r r' : R2} {g g' : D → D → Option D}
theorem tv_op (hs : OpS X.K r g) {σ : L2.St} {H : Hp} {Q : VK} (h : tV X.K (T1 ++ T2) [] true (fOp O1 T2 g fa fb) σ H Q) : tOp r (tV X.K T1 O1 x1 fa) (tV X.K T2 O2 x2 fb) σ H Q := by
  obtain ⟨Z, ρ, Fs, d, ρ', rel, hf, q⟩ := h
  unfold fOp at hf
  obtain ⟨⟨d1, ρ1⟩, h1, hf⟩ := Option.bind_eq_some_iff.mp hf
  obtain ⟨⟨d2, ρ2⟩, h2, hf⟩ := Option.bind_eq_some_iff.mp hf
  split at hf
  · rename_i hsf
    obtain ⟨d', h3, hf⟩ := Option.bind_eq_some_iff.mp hf
    cases hf
    refine ⟨Z, ρ, Fs, d1, ρ1, rel, h1, fun v1 H1 Z1 Fs1 F1 rel1 f1 w1 c1 => ?_⟩
    refine ⟨Z1, ρ1, Fs1, d2, _, rel1, h2, fun v2 H2 Z2 Fs2 F2 rel2 f2 w2 c2 => ?_⟩
    have w1' := w1.keep rel1 f2 hsf
    refine hs Z2 H2 d1 d2 v1 v2 F1 F2 _ Q w1'.r w2.r h3 fun v H' F k r nd nw => ?_
    have ff := (f1.trans f2)
    have f3 := ff.trans (Frm.pureT [] k)
    rw [List.append_nil] at f3
    exact q v H' Z2 Fs2 F (rel2.keep0 k) f3 (Val.new rel2 r nd nw) (Cf.new ff.keep nw)
  · cases hf
theorem pev_op {op : Operator} (ho : OpR X (binaryOp op) r) (hs : OpS X.K r g) (ha : PEV X T1 O1 x1 a fa) (hb : PEV X T2 O2 x2 b fb) : PEV X (T1 ++ T2) [] true (.BinOp a op b pos) (fOp O1 T2 g fa fb) :=
  PE.imp (pe_op ho ha hb) fun _ _ _ h => tv_op hs h
theorem pev_cmp {op : CmpOp} (ho : OpR X (compareOp op) r) (hs : OpS X.K r g) (ha : PEV X T1 O1 x1 a fa) (hb : PEV X T2 O2 x2 b fb) (hm : behindInMarks op b = false) : PEV X (T1 ++ T2) [] true (.Compare a [op] [b] pos) (fOp O1 T2 g fa fb) :=
  PE.imp (pe_cmpR ho ha hb hm) fun _ _ _ h => tv_op hs h
theorem pev_un {op : UnaryOp} {ru : V → Hp → VK → Prop} {gu : D → Option D} (ho : UnR X (unaryOp op) ru) (hs : UnS X.K ru gu) (ha : PEV X T O x a fa) : PEV X T [] true (.UnaryOp op a pos) (fUn gu fa) := by
  refine PE.imp (pe_un ho ha) fun σ H Q h => ?_
  obtain ⟨Z, ρ, Fs, d, ρ', rel, hf, q⟩ := h
  unfold fUn at hf
  obtain ⟨⟨d1, ρ1⟩, h1, hf⟩ := Option.bind_eq_some_iff.mp hf
  obtain ⟨d', h3, hf⟩ := Option.bind_eq_some_iff.mp hf
  cases hf
  refine ⟨Z, ρ, Fs, d1, _, rel, h1, fun v1 H1 Z1 Fs1 F1 rel1 f1 w1 c1 => ?_⟩
  refine hs Z1 H1 d1 v1 F1 _ Q w1.r h3 fun v H' F k r nd nw => ?_
  have f3 := f1.trans (Frm.pureT [] k)
  rw [List.append_nil] at f3
  exact q v H' Z1 Fs1 F (rel1.keep0 k) f3 (Val.new rel1 r nd nw) (Cf.new f1.keep nw)
/-- a part of a value -/
theorem tv_opW (hs : OpW X.K r g) {σ : L2.St} {H : Hp} {Q : VK} (h : tV X.K (T1 ++ T2) O1 false (fOp O1 T2 g fa fb) σ H Q) : tOp r (tV X.K T1 O1 x1 fa) (tV X.K T2 O2 x2 fb) σ H Q := by
  obtain ⟨Z, ρ, Fs, d, ρ', rel, hf, q⟩ := h
  unfold fOp at hf
  obtain ⟨⟨d1, ρ1⟩, h1, hf⟩ := Option.bind_eq_some_iff.mp hf
  obtain ⟨⟨d2, ρ2⟩, h2, hf⟩ := Option.bind_eq_some_iff.mp hf
  split at hf
  · rename_i hsf
    obtain ⟨d', h3, hf⟩ := Option.bind_eq_some_iff.mp hf
    cases hf
    refine ⟨Z, ρ, Fs, d1, ρ1, rel, h1, fun v1 H1 Z1 Fs1 F1 rel1 f1 w1 c1 => ?_⟩
    refine ⟨Z1, ρ1, Fs1, d2, _, rel1, h2, fun v2 H2 Z2 Fs2 F2 rel2 f2 w2 c2 => ?_⟩
    have w1' := w1.keep rel1 f2 hsf
    refine hs Z2 H2 d1 d2 v1 v2 F1 F2 _ Q w1'.r w2.r h3 fun v H' F k r sb => ?_
    have f3 := (f1.trans f2).trans (Frm.pureT [] k)
    rw [List.append_nil] at f3
    exact q v H' Z2 Fs2 F (rel2.keep0 k) f3 ⟨r, fun j a h1 h2 => w1'.ori j a (sb a h1) h2, fun h => (by cases h)⟩ fun h => (by cases h)
  · cases hf
theorem pev_ix {hr : IxR X r} (hs : OpW X.K r g) (ha : PEV X T1 O1 x1 a fa) (hb : PEV X T2 O2 x2 b fb) (hp : PlainIx b := by intro _ _; rfl) : PEV X (T1 ++ T2) O1 false (.Subscript a b pos) (fOp O1 T2 g fa fb) :=
  PE.imp (pe_ix hr ha hb hp) fun _ _ _ h => tv_opW hs h

/-! ### constants -/
theorem tv_c {K : PySem.W.Frag} {d : D} {v : V} (hr : ∀ Z H, R K Z H d v []) {σ : L2.St} {H : Hp} {Q : VK} (h : tV K [] [] true (fC d) σ H Q) : tC v σ H Q := by
  obtain ⟨Z, ρ, Fs, d', ρ', rel, hf, q⟩ := h
  cases hf
  exact q v H Z Fs [] rel (Frm.refl _) ⟨hr Z H, fun _ _ h => (by cases h), fun _ => ⟨List.nodup_nil, fun _ h => (by cases h)⟩⟩ Cf.nil
theorem pev_int {i : Int} {j} : PEV X [] [] true (.Constant (.int i) j pos) (fC (.int i)) := PE.imp pe_int fun _ _ _ h => tv_c (fun _ _ => .int i) h
theorem pev_bl {i : Bool} {j} : PEV X [] [] true (.Constant (.bool i) j pos) (fC (.bl i)) := PE.imp pe_bl fun _ _ _ h => tv_c (fun _ _ => .bl i) h
theorem pev_non {j} : PEV X [] [] true (.Constant .none j pos) (fC .non) := PE.imp pe_non fun _ _ _ h => tv_c (fun _ _ => .non) h
theorem pev_str {i : Str} {j} : PEV X [] [] true (.Constant (.str i) j pos) (fC (.str i)) := PE.imp pe_str fun _ _ _ h => tv_c (fun _ _ => .str i) h
/-- data that a module's name holds -/
def GD (K : PySem.W.Frag) (u : Value) (d : D) : Prop := ∃ v, RelV v u ∧ ∀ Z H, R K Z H d v []
theorem pev_glob {y : Str} {u : Value} {d : D} (hg : Gl X y) (hm : X.mg y = some u) (g : GD X.K u d) (hd : (y == ("__debug__" : Str)) = false := by decide) : PEV X [] [] true (.Name y pos) (fC d) := by
  obtain ⟨v, rv, hr⟩ := g
  exact PE.imp (pe_glob hg hm rv hd) fun _ _ _ h => tv_c hr h

/-! ### arguments, displays -/
theorem pav_nil : PAV X [] [] x [] fNil := by
  refine PA.imp pa_nil fun σ H Q h => ?_
  obtain ⟨Z, ρ, Fs, ds, ρ', rel, hf, q⟩ := h
  cases hf
  exact q [] H Z Fs [] rel (Frm.refl _) ⟨.nil, fun _ _ h => (by cases h), fun _ => ⟨List.nodup_nil, fun _ h => (by cases h)⟩⟩ Cf.nil
theorem tv_cons (hx : x = true → x1 = true ∧ O1 = [] ∧ x2 = true) {σ : L2.St} {H : Hp} {Q : List V → Hp → Prop} (h : tVL X.K (T1 ++ T2) (O1 ++ O2) x (fCons O1 T2 fa fr) σ H Q) : tCons (tV X.K T1 O1 x1 fa) (tVL X.K T2 O2 x2 fr) σ H Q := by
  obtain ⟨Z, ρ, Fs, ds, ρ', rel, hf, q⟩ := h
  unfold fCons at hf
  obtain ⟨⟨d1, ρ1⟩, h1, hf⟩ := Option.bind_eq_some_iff.mp hf
  obtain ⟨⟨d2, ρ2⟩, h2, hf⟩ := Option.bind_eq_some_iff.mp hf
  split at hf
  · rename_i hsf
    cases hf
    refine ⟨Z, ρ, Fs, d1, ρ1, rel, h1, fun v1 H1 Z1 Fs1 F1 rel1 f1 w1 c1 => ?_⟩
    refine ⟨Z1, ρ1, Fs1, d2, _, rel1, h2, fun vs H2 Z2 Fs2 F2 rel2 f2 w2 c2 => ?_⟩
    have w1' := w1.keep rel1 f2 hsf
    refine q (v1 :: vs) H2 Z2 Fs2 (F1 ++ F2) rel2 (f1.trans f2) ⟨.cons w1'.r w2.r, fun j a h1 h2 => ?_, fun h => ?_⟩ fun h a ha => ?_
    · rcases List.mem_append.mp h1 with h1 | h1
      · exact List.mem_append_left _ (w1'.ori j a h1 h2)
      · exact List.mem_append_right _ (w2.ori j a h1 h2)
    · obtain ⟨e1, e2, e3⟩ := hx h
      refine ⟨List.nodup_append.mpr ⟨(w1'.exc e1).1, (w2.exc e3).1, fun a h1 b h2 e => ?_⟩, fun a ha => ?_⟩
      · subst e
        rcases c2 e3 a h2 with ⟨j, hj, z⟩ | z
        · have := w1.ori j a h1 z
          rw [e2] at this
          cases this
        · exact w1.r.tr a h1 z
      · rcases List.mem_append.mp ha with ha | ha
        · exact (w1'.exc e1).2 a ha
        · exact (w2.exc e3).2 a ha
    · obtain ⟨e1, e2, e3⟩ := hx h
      rcases List.mem_append.mp ha with ha | ha
      · exact c1.early e1 a ha
      · exact c2.late f1 e3 a ha
  · cases hf
/-- .. seen -/
theorem pav_cons (ha : PEV X T1 O1 x1 e fa) (hr : PAV X T2 O2 x2 es fr) (hs : starEach (e :: es) X.env = (false, eval e X.env) :: starEach es X.env := by rfl) : PAV X (T1 ++ T2) (O1 ++ O2) false (e :: es) (fCons O1 T2 fa fr) :=
  PA.imp (pa_cons ha hr hs) fun _ _ _ h => tv_cons (fun h => (by cases h)) h
/-- .. held -/
theorem pav_consX (ha : PEV X T1 [] true e fa) (hr : PAV X T2 [] true es fr) (hs : starEach (e :: es) X.env = (false, eval e X.env) :: starEach es X.env := by rfl) : PAV X (T1 ++ T2) [] true (e :: es) (fCons [] T2 fa fr) :=
  PA.imp (pa_cons ha hr hs) fun σ H Q h => tv_cons (O1 := []) (O2 := []) (x := true) (fun _ => ⟨rfl, rfl, rfl⟩) h
def szOk (n : Nat) : Bool := decide (n ≤ 100000)
theorem sz_of {n : Nat} (h : szOk n = true) : n ≤ sizeLine := Nat.le_trans (of_decide_eq_true h) (by decide)
theorem sz_lt {n : Nat} (h : szOk n = true) : n < sizeLine := Nat.lt_of_le_of_lt (of_decide_eq_true h) (by decide)
def fTup (fr : M (List D)) : M D := fun ρ => (fr ρ).bind fun p => if szOk p.1.length = true then some (.tup p.1, p.2) else none
def fLst (fr : M (List D)) : M D := fun ρ => (fr ρ).bind fun p => if szOk p.1.length = true then some (.lst true p.1, p.2) else none
theorem pev_tup {k} (h : PAV X T [] true es fr) : PEV X T [] true (.Tuple es k pos) (fTup fr) := by
  refine PE.imp (pe_tup h) fun σ H Q h => ?_
  obtain ⟨Z, ρ, Fs, d, ρ', rel, hf, q⟩ := h
  unfold fTup at hf
  obtain ⟨⟨ds, ρ1⟩, h1, hf⟩ := Option.bind_eq_some_iff.mp hf
  split at hf
  · rename_i hz
    cases hf
    refine ⟨Z, ρ, Fs, ds, _, rel, h1, fun vs H1 Z1 Fs1 F1 rel1 f1 w1 c1 => ⟨by rw [← w1.r.length]; exact sz_of hz, fun p hp => ?_⟩⟩
    have k : Keep M0 H1 (upd H1 p (.tup vs)) := Keep.new hp
    have f3 := f1.trans (Frm.pureT [] k)
    rw [List.append_nil] at f3
    exact q (.ref p) _ Z1 Fs1 F1 (rel1.keep0 k) f3 ⟨.tup upd_same (w1.r.keep k (fun _ h => h) (fun _ _ h => h) fun _ _ h => h), w1.ori, w1.exc⟩ c1
  · cases hf
theorem pev_lst (h : PAV X T [] true es fr) : PEV X T [] true (.List es pos) (fLst fr) := by
  refine PE.imp (pe_lst h) fun σ H Q h => ?_
  obtain ⟨Z, ρ, Fs, d, ρ', rel, hf, q⟩ := h
  unfold fLst at hf
  obtain ⟨⟨ds, ρ1⟩, h1, hf⟩ := Option.bind_eq_some_iff.mp hf
  split at hf
  · rename_i hz
    cases hf
    refine ⟨Z, ρ, Fs, ds, _, rel, h1, fun vs H1 Z1 Fs1 F1 rel1 f1 w1 c1 => ⟨by rw [← w1.r.length]; exact sz_of hz, fun p hp => ?_⟩⟩
    have k : Keep M0 H1 (upd H1 p (.lst vs)) := Keep.new hp
    have f3 := f1.trans (Frm.pureT [] k)
    rw [List.append_nil] at f3
    have np : p ∉ F1 := fun z => w1.r.tr p z hp
    refine q (.ref p) _ Z1 Fs1 (p :: F1) (rel1.keep0 k) f3 ⟨.own upd_same (w1.r.keep k (fun _ h => h) (fun _ _ h => h) fun _ _ h => h), fun j a h1 h2 => ?_, fun h => ⟨List.nodup_cons.mpr ⟨np, (w1.exc h).1⟩, fun a h1 => ?_⟩⟩ fun h a h1 => ?_
    · rcases List.mem_cons.mp h1 with e | h1
      · subst e; exact absurd hp (rel1.ft j _ h2)
      · exact w1.ori j a h1 h2
    · rcases List.mem_cons.mp h1 with e | h1
      · subst e; exact fun z => rel1.zt _ z hp
      · exact (w1.exc h).2 a h1
    · rcases List.mem_cons.mp h1 with e | h1
      · subst e; exact .inr (f1.keep.back hp)
      · exact c1 h a h1
  · cases hf
end
end Vl

namespace Vl
open PySem PySem.Spec PyProof.Rows L2

/-! ### tests -/
def fB (f : M D) : M Bool := fun ρ => (f ρ).bind fun p => match p.1 with
  | .bl b => some (b, p.2)
  | _ => none
def truth : D → Option Bool
  | .non => some false
  | .bl b => some b
  | .int i => some (i != 0)
  | .str s => if szOk s.length = true then some ((s.length : Int) != 0) else none
  | .tup l => some (!l.isEmpty)
  | .lst _ l => some (!l.isEmpty)
  | .dct o t l => if (o && !t) = true then some (!l.isEmpty) else none
  | .scr l => some (!l.isEmpty)
  | .xt _ => none
def fTr (f : M D) : M Bool := fun ρ => (f ρ).bind fun p => (truth p.1).bind fun b => some (b, p.2)
def fAnd (fa fb : M Bool) : M Bool := fun ρ => (fa ρ).bind fun p => if p.1 = true then fb p.2 else some (false, p.2)
def fOr (fa fb : M Bool) : M Bool := fun ρ => (fa ρ).bind fun p => if p.1 = true then some (true, p.2) else fb p.2
def fNot (fa : M Bool) : M Bool := fun ρ => (fa ρ).bind fun p => some (!p.1, p.2)
def fIf (ft : M Bool) (fa fb : M D) : M D := fun ρ => (ft ρ).bind fun p => if p.1 = true then fa p.2 else fb p.2
def fAndV (fa fb : M D) : M D := fun ρ => (fB fa ρ).bind fun p => if p.1 = true then fb p.2 else some (.bl false, p.2)
def fOrV (fa fb : M D) : M D := fun ρ => (fB fa ρ).bind fun p => if p.1 = true then some (.bl true, p.2) else fb p.2
def fNotV (fa : M D) : M D := fun ρ => (fB fa ρ).bind fun p => some (.bl (!p.1), p.2)
def fChain (O1 T2 O2 T3 : List Nat) (g g' : D → D → Option D) (fa fb fc : M D) : M D := fun ρ => (fa ρ).bind fun p => (fb p.2).bind fun q => if safe O1 T2 p.1 = true then (g p.1 q.1).bind fun z => match z with
    | .bl true => (fc q.2).bind fun w => if safe O2 T3 q.1 = true then (g' q.1 w.1).bind fun d => some (d, w.2) else none
    | .bl false => some (.bl false, q.2)
    | _ => none
  else none

section
variable {X : Cx} {T T1 T2 T3 O O1 O2 O3 : List Nat} {x x1 x2 x3 : Bool} {a b c e : Expr} {es rest : List Expr} {fa fb fc f : M D} {ft fu : M Bool} {fr : M (List D)} {pos : Pos} {r r' : R2} {g g' : D → D → Option D}
theorem R.bl_inv {K : PySem.W.Frag} {Z : Addr → Prop} {H : Hp} {b : Bool} {v : V} {F : List Addr} (r : R K Z H (.bl b) v F) : v = .bl b := by
  cases r
  rfl
theorem R.int_inv {K : PySem.W.Frag} {Z : Addr → Prop} {H : Hp} {b : Int} {v : V} {F : List Addr} (r : R K Z H (.int b) v F) : v = .int b := by
  cases r
  rfl
theorem R.str_inv {K : PySem.W.Frag} {Z : Addr → Prop} {H : Hp} {b : Str} {v : V} {F : List Addr} (r : R K Z H (.str b) v F) : v = .str b := by
  cases r
  rfl
theorem R.non_inv {K : PySem.W.Frag} {Z : Addr → Prop} {H : Hp} {v : V} {F : List Addr} (r : R K Z H .non v F) : v = .non := by
  cases r
  rfl
theorem tvt_of {t : TE} (ht : ∀ σ H Q, tV X.K T O x f σ H Q → t σ H Q) {σ : L2.St} {H : Hp} {Q : Bool → Hp → Prop} (h : tVT X.K T (fB f) σ H Q) : tTest t σ H Q := by
  obtain ⟨Z, ρ, Fs, b, ρ', rel, hf, q⟩ := h
  unfold fB at hf
  obtain ⟨⟨d, ρ1⟩, h1, hf⟩ := Option.bind_eq_some_iff.mp hf
  split at hf
  · rename_i b' e
    cases hf
    refine ht σ H _ ⟨Z, ρ, Fs, d, _, rel, h1, fun v H' Z' Fs' F r' f' w c => ?_⟩
    have e : d = .bl b := e
    subst e
    exact ⟨b, w.r.bl_inv, q H' Z' Fs' r' f'⟩
  · cases hf
theorem ptv_cmp {op : CmpOp} (ho : OpR X (compareOp op) r) (hs : OpS X.K r g) (ha : PEV X T1 O1 x1 a fa) (hb : PEV X T2 O2 x2 b fb) (hm : behindInMarks op b = false) : PTV X (T1 ++ T2) (.Compare a [op] [b] pos) (fB (fOp O1 T2 g fa fb)) :=
  PT.imp (pt_cmpR ho ha hb hm) fun σ H Q h => tvt_of (fun _ _ _ h => tv_op hs h) h
theorem ptv_val (h : PEV X T O x e f) (he : ∀ whole, isTrue e X.env whole = (do let v ← whole; standAt e.pos; holding [v] (truthy v)) := by intro _; rfl) : PTV X T e (fB f) :=
  PT.imp (pt_val h he) fun σ H Q h => tvt_of (t := tV X.K T O x f) (fun _ _ _ h => h) h
theorem R.truth {K : PySem.W.Frag} {Z : Addr → Prop} {H : Hp} {d : D} {v : V} {F : List Addr} {k : Bool} (r : R K Z H d v F) (h : truth d = some k) : TruV K v H k := by
  cases r with
  | xt _ _ _ _ => cases h
  | non => cases h; rfl
  | bl b => cases h; rfl
  | int i => cases h; rfl
  | str s =>
    simp only [Vl.truth] at h
    split at h
    · rename_i hz
      cases h
      exact ⟨sz_of hz, rfl⟩
    · cases h
  | tup h1 h2 =>
    cases h
    refine .inr (.inl ⟨_, SqT.of h1, ?_⟩)
    have e := h2.length
    cases h2 with
    | nil => rfl
    | cons _ _ => rfl
  | own h1 h2 =>
    cases h
    refine .inl ⟨_, SqL.of h1, ?_⟩
    cases h2 with
    | nil => rfl
    | cons _ _ => rfl
  | fzn h1 z h2 =>
    cases h
    refine .inl ⟨_, SqL.of h1, ?_⟩
    generalize hG : ([] : List Addr) = G at h2
    cases h2 with
    | nil => rfl
    | cons _ _ => rfl
  | knw h1 h2 =>
    cases h
    refine .inl ⟨_, h1.l, ?_⟩
    generalize hG : ([] : List Addr) = G at h2
    cases h2 with
    | nil => rfl
    | cons _ _ => rfl
  | dow h1 h2 =>
    rename_i a t vs kvs F
    simp only [Vl.truth] at h
    split at h
    · rename_i ht
      cases h
      cases t with
      | true => cases ht
      | false =>
        obtain ⟨o, e, ks, e1, e2, e3⟩ := h1
        subst e1
        refine .inr (.inr ⟨ks, e, ?_⟩)
        cases kvs with
        | nil =>
          cases ks with
          | nil => rfl
          | cons _ _ => cases e2
        | cons _ _ =>
          cases ks with
          | nil => cases e2
          | cons _ _ => rfl
    · cases h
  | dfz h1 z h2 => simp [Vl.truth] at h
  | dlk h1 h2 => simp [Vl.truth] at h
theorem ptv_tr (h : PEV X T O x e f) (he : ∀ whole, isTrue e X.env whole = (do let v ← whole; standAt e.pos; holding [v] (truthy v)) := by intro _; rfl) : PTV X T e (fTr f) := by
  refine PT.imp (pt_truth h he) fun σ H Q h => ?_
  obtain ⟨Z, ρ, Fs, b, ρ', rel, hf, q⟩ := h
  unfold fTr at hf
  obtain ⟨⟨d, ρ1⟩, h1, hf⟩ := Option.bind_eq_some_iff.mp hf
  obtain ⟨k, h2, hf⟩ := Option.bind_eq_some_iff.mp hf
  cases hf
  exact ⟨Z, ρ, Fs, d, _, rel, h1, fun v H' Z' Fs' F r' f' w c => ⟨_, w.r.truth h2, q H' Z' Fs' r' f'⟩⟩
abbrev PWV (X : Cx) (T : List Nat) (e : Expr) (f : M Bool) : Prop := PW X e (tVT X.K T f)
theorem pwv_and1 (ha : PTV X T a ft) : PWV X T (.BoolOp .And [a] pos) ft := pw_and1 ha
theorem pwv_or1 (ha : PTV X T a ft) : PWV X T (.BoolOp .Or [a] pos) ft := pw_or1 ha
theorem pwv_and (ha : PTV X T1 a ft) (hb : PWV X T2 (.BoolOp .And (b :: rest) pos) fu) : PWV X (T1 ++ T2) (.BoolOp .And (a :: b :: rest) pos) (fAnd ft fu) := by
  refine PW.imp (pw_and ha hb) fun σ H Q h => ?_
  obtain ⟨Z, ρ, Fs, k, ρ', rel, hf, q⟩ := h
  unfold fAnd at hf
  obtain ⟨⟨c, ρ1⟩, h1, hf⟩ := Option.bind_eq_some_iff.mp hf
  refine ⟨Z, ρ, Fs, c, ρ1, rel, h1, fun H1 Z1 Fs1 rel1 f1 => ?_⟩
  cases c with
  | true => exact ⟨Z1, ρ1, Fs1, k, ρ', rel1, hf, fun H2 Z2 Fs2 rel2 f2 => q H2 Z2 Fs2 rel2 (f1.trans f2)⟩
  | false =>
    cases hf
    exact q H1 Z1 Fs1 rel1 (f1.mono fun j hj => List.mem_append_left _ hj)
theorem pwv_or (ha : PTV X T1 a ft) (hb : PWV X T2 (.BoolOp .Or (b :: rest) pos) fu) : PWV X (T1 ++ T2) (.BoolOp .Or (a :: b :: rest) pos) (fOr ft fu) := by
  refine PW.imp (pw_or ha hb) fun σ H Q h => ?_
  obtain ⟨Z, ρ, Fs, k, ρ', rel, hf, q⟩ := h
  unfold fOr at hf
  obtain ⟨⟨c, ρ1⟩, h1, hf⟩ := Option.bind_eq_some_iff.mp hf
  refine ⟨Z, ρ, Fs, c, ρ1, rel, h1, fun H1 Z1 Fs1 rel1 f1 => ?_⟩
  cases c with
  | false => exact ⟨Z1, ρ1, Fs1, k, ρ', rel1, hf, fun H2 Z2 Fs2 rel2 f2 => q H2 Z2 Fs2 rel2 (f1.trans f2)⟩
  | true =>
    cases hf
    exact q H1 Z1 Fs1 rel1 (f1.mono fun j hj => List.mem_append_left _ hj)
theorem ptv_w (h : PWV X T e ft) : PTV X T e ft := h.pt
theorem ptv_not (ha : PTV X T a ft) : PTV X T (.UnaryOp .Not a pos) (fNot ft) := by
  refine PT.imp (pt_not ha) fun σ H Q h => ?_
  obtain ⟨Z, ρ, Fs, k, ρ', rel, hf, q⟩ := h
  unfold fNot at hf
  obtain ⟨⟨c, ρ1⟩, h1, hf⟩ := Option.bind_eq_some_iff.mp hf
  cases hf
  exact ⟨Z, ρ, Fs, c, _, rel, h1, fun H1 Z1 Fs1 rel1 f1 => q H1 Z1 Fs1 rel1 f1⟩
/-! ### bools as values -/
theorem pev_one {op} (h : PEV X T O x a f) : PEV X T O x (.BoolOp op [a] pos) f := pe_one h
theorem tv_b {σ : L2.St} {H : Hp} {Q : V → Hp → Prop} {Z : Addr → Prop} {ρ ρ1 : Env} {Fs : Ft} {c : Bool} (rel : Rel X.K Z ρ σ H Fs) (h1 : fB f ρ = some (c, ρ1))
    (q : ∀ H1 Z1 Fs1, Rel X.K Z1 ρ1 σ H1 Fs1 → Frm T Z ρ Fs H Z1 ρ1 Fs1 H1 → Q (.bl c) H1) : tV X.K T O x f σ H Q := by
  unfold fB at h1
  obtain ⟨⟨d, ρ2⟩, h0, h1⟩ := Option.bind_eq_some_iff.mp h1
  split at h1
  · rename_i b' e
    cases h1
    refine ⟨Z, ρ, Fs, d, _, rel, h0, fun v H' Z' Fs' F r' f' w cc => ?_⟩
    have e : d = .bl c := e
    subst e
    rw [w.r.bl_inv]
    exact q H' Z' Fs' r' f'
  · cases h1
theorem pev_and (ha : PEV X T1 O1 x1 a fa) (hb : PEV X T2 O2 x2 (.BoolOp .And (b :: rest) pos) fb) : PEV X (T1 ++ T2) O2 x2 (.BoolOp .And (a :: b :: rest) pos) (fAndV fa fb) := by
  refine PE.imp (pe_and ha hb) fun σ H Q h => ?_
  obtain ⟨Z, ρ, Fs, d, ρ', rel, hf, q⟩ := h
  unfold fAndV at hf
  obtain ⟨⟨c, ρ1⟩, h1, hf⟩ := Option.bind_eq_some_iff.mp hf
  refine tv_b rel h1 fun H1 Z1 Fs1 rel1 f1 => ⟨c, rfl, ?_⟩
  cases c with
  | true => exact ⟨Z1, ρ1, Fs1, d, ρ', rel1, hf, fun v H2 Z2 Fs2 F rel2 f2 w cc => q v H2 Z2 Fs2 F rel2 (f1.trans f2) w (cc.late f1)⟩
  | false =>
    cases hf
    exact q _ H1 Z1 Fs1 [] rel1 (f1.mono fun j hj => List.mem_append_left _ hj) ⟨.bl false, fun _ _ h => (by cases h), fun _ => ⟨List.nodup_nil, fun _ h => (by cases h)⟩⟩ Cf.nil
theorem pev_or (ha : PEV X T1 O1 x1 a fa) (hb : PEV X T2 O2 x2 (.BoolOp .Or (b :: rest) pos) fb) : PEV X (T1 ++ T2) O2 x2 (.BoolOp .Or (a :: b :: rest) pos) (fOrV fa fb) := by
  refine PE.imp (pe_or ha hb) fun σ H Q h => ?_
  obtain ⟨Z, ρ, Fs, d, ρ', rel, hf, q⟩ := h
  unfold fOrV at hf
  obtain ⟨⟨c, ρ1⟩, h1, hf⟩ := Option.bind_eq_some_iff.mp hf
  refine tv_b rel h1 fun H1 Z1 Fs1 rel1 f1 => ⟨c, rfl, ?_⟩
  cases c with
  | false => exact ⟨Z1, ρ1, Fs1, d, ρ', rel1, hf, fun v H2 Z2 Fs2 F rel2 f2 w cc => q v H2 Z2 Fs2 F rel2 (f1.trans f2) w (cc.late f1)⟩
  | true =>
    cases hf
    exact q _ H1 Z1 Fs1 [] rel1 (f1.mono fun j hj => List.mem_append_left _ hj) ⟨.bl true, fun _ _ h => (by cases h), fun _ => ⟨List.nodup_nil, fun _ h => (by cases h)⟩⟩ Cf.nil
theorem pev_not (ha : PEV X T O x a fa) : PEV X T [] true (.UnaryOp .Not a pos) (fNotV fa) := by
  refine PE.imp (pe_not ha) fun σ H Q h => ?_
  obtain ⟨Z, ρ, Fs, d, ρ', rel, hf, q⟩ := h
  unfold fNotV at hf
  obtain ⟨⟨c, ρ1⟩, h1, hf⟩ := Option.bind_eq_some_iff.mp hf
  cases hf
  exact tv_b rel h1 fun H1 Z1 Fs1 rel1 f1 => ⟨c, rfl, q _ H1 Z1 Fs1 [] rel1 f1 ⟨.bl _, fun _ _ h => (by cases h), fun _ => ⟨List.nodup_nil, fun _ h => (by cases h)⟩⟩ Cf.nil⟩
theorem pev_if (hc : PTV X T1 c ft) (ha : PEV X T2 O2 x2 a fa) (hb : PEV X T3 O3 x3 b fb) : PEV X (T1 ++ (T2 ++ T3)) (O2 ++ O3) (x2 && x3) (.IfExp c a b pos) (fIf ft fa fb) := by
  refine PE.imp (pe_ifExp hc ha hb) fun σ H Q h => ?_
  obtain ⟨Z, ρ, Fs, d, ρ', rel, hf, q⟩ := h
  unfold fIf at hf
  obtain ⟨⟨k, ρ1⟩, h1, hf⟩ := Option.bind_eq_some_iff.mp hf
  refine ⟨Z, ρ, Fs, k, ρ1, rel, h1, fun H1 Z1 Fs1 rel1 f1 => ?_⟩
  cases k with
  | true =>
    refine ⟨Z1, ρ1, Fs1, d, ρ', rel1, hf, fun v H2 Z2 Fs2 F rel2 f2 w cc => q v H2 Z2 Fs2 F rel2 (f1.trans (f2.mono fun j hj => List.mem_append_left _ hj)) ⟨w.r, fun j a h1 h2 => List.mem_append_left _ (w.ori j a h1 h2), fun h => w.exc ?_⟩ fun h => ?_⟩
    · rw [Bool.and_eq_true] at h; exact h.1
    · rw [Bool.and_eq_true] at h
      exact Cf.late f1 (cc.mono fun j hj => List.mem_append_left T3 hj) h.1
  | false =>
    refine ⟨Z1, ρ1, Fs1, d, ρ', rel1, hf, fun v H2 Z2 Fs2 F rel2 f2 w cc => q v H2 Z2 Fs2 F rel2 (f1.trans (f2.mono fun j hj => List.mem_append_right _ hj)) ⟨w.r, fun j a h1 h2 => List.mem_append_right _ (w.ori j a h1 h2), fun h => w.exc ?_⟩ fun h => ?_⟩
    · rw [Bool.and_eq_true] at h; exact h.2
    · rw [Bool.and_eq_true] at h
      exact Cf.late f1 (cc.mono fun j hj => List.mem_append_right T2 hj) h.2
/-! ### a < b < c -/
theorem tv_chain (hs : OpS X.K r g) (hs' : OpS X.K r' g') {σ : L2.St} {H : Hp} {Q : VK} (h : tV X.K (T1 ++ (T2 ++ T3)) [] true (fChain O1 T2 O2 T3 g g' fa fb fc) σ H Q) : tChain r r' (tV X.K T1 O1 x1 fa) (tV X.K T2 O2 x2 fb) (tV X.K T3 O3 x3 fc) σ H Q := by
  obtain ⟨Z, ρ, Fs, d, ρ', rel, hf, q⟩ := h
  unfold fChain at hf
  obtain ⟨⟨d1, ρ1⟩, h1, hf⟩ := Option.bind_eq_some_iff.mp hf
  obtain ⟨⟨d2, ρ2⟩, h2, hf⟩ := Option.bind_eq_some_iff.mp hf
  split at hf
  · rename_i hsf
    obtain ⟨z, h3, hf⟩ := Option.bind_eq_some_iff.mp hf
    refine ⟨Z, ρ, Fs, d1, ρ1, rel, h1, fun v1 H1 Z1 Fs1 F1 rel1 f1 w1 c1 => ?_⟩
    refine ⟨Z1, ρ1, Fs1, d2, _, rel1, h2, fun v2 H2 Z2 Fs2 F2 rel2 f2 w2 c2 => ?_⟩
    have w1' := w1.keep rel1 f2 hsf
    refine hs Z2 H2 d1 d2 v1 v2 F1 F2 _ _ w1'.r w2.r h3 fun v H3 F k rz nd nw => ?_
    have f12 := f1.trans f2
    split at hf
    · obtain ⟨⟨d3, ρ3⟩, h4, hf⟩ := Option.bind_eq_some_iff.mp hf
      split at hf
      · rename_i hsf2
        obtain ⟨d', h5, hf⟩ := Option.bind_eq_some_iff.mp hf
        cases hf
        refine ⟨true, rz.bl_inv, ?_⟩
        rw [if_pos rfl]
        have rel3 := rel2.keep0 k
        refine ⟨Z2, ρ2, Fs2, d3, _, rel3, h4, fun v3 H4 Z4 Fs4 F4 rel4 f4 w4 c4 => ?_⟩
        have w2' : Val X.K Z2 H3 Fs2 O2 x2 d2 v2 F2 := ⟨w2.r.keep k (fun _ h => h) (fun _ _ h => h) fun _ _ h => h, w2.ori, w2.exc⟩
        have w2'' := w2'.keep rel3 f4 hsf2
        refine hs' Z4 H4 d2 d3 v2 v3 F2 F4 _ Q w2''.r w4.r h5 fun v H' F k' r' nd nw => ?_
        have fa := (f12.trans ((Frm.pureT [] k).trans f4))
        have fb := fa.trans (Frm.pureT [] k')
        rw [List.nil_append, List.append_nil, List.append_assoc] at fb
        rw [List.nil_append, List.append_assoc] at fa
        exact q v H' Z4 Fs4 F (rel4.keep0 k') fb (Val.new rel4 r' nd nw) (Cf.new fa.keep nw)
      · cases hf
    · cases hf
      refine ⟨false, rz.bl_inv, ?_⟩
      rw [if_neg Bool.false_ne_true]
      have fb := f12.trans (Frm.pureT T3 k)
      rw [List.append_assoc] at fb
      exact q _ H3 Z2 Fs2 [] (rel2.keep0 k) fb ⟨.bl false, fun _ _ h => (by cases h), fun _ => ⟨List.nodup_nil, fun _ h => (by cases h)⟩⟩ Cf.nil
    · cases hf
  · cases hf
theorem pev_chain {op op' : CmpOp} (ho : OpR X (compareOp op) r) (hs : OpS X.K r g) (ho' : OpR X (compareOp op') r') (hs' : OpS X.K r' g') (ha : PEV X T1 O1 x1 a fa) (hb : PEV X T2 O2 x2 b fb) (hc : PEV X T3 O3 x3 c fc)
    (hm : lastMarks [op, op'] [b, c] = false := by with_unfolding_all rfl) : PEV X (T1 ++ (T2 ++ T3)) [] true (.Compare a [op, op'] [b, c] pos) (fChain O1 T2 O2 T3 g g' fa fb fc) :=
  PE.imp (pe_chain ho ho' ha hb hc hm) fun _ _ _ h => tv_chain hs hs' h
theorem ptv_chain {op op' : CmpOp} (ho : OpR X (compareOp op) r) (hs : OpS X.K r g) (ho' : OpR X (compareOp op') r') (hs' : OpS X.K r' g') (ha : PEV X T1 O1 x1 a fa) (hb : PEV X T2 O2 x2 b fb) (hc : PEV X T3 O3 x3 c fc)
    (hm : lastMarks [op, op'] [b, c] = false := by with_unfolding_all rfl) : PTV X (T1 ++ (T2 ++ T3)) (.Compare a [op, op'] [b, c] pos) (fB (fChain O1 T2 O2 T3 g g' fa fb fc)) :=
  PT.imp (pt_chain ho ho' ha hb hc hm) fun σ H Q h => tvt_of (fun _ _ _ h => tv_chain hs hs' h) h

/-! ### built-in calls -/
def fCl (g : List D → Option D) (fr : M (List D)) : M D := fun ρ => (fr ρ).bind fun p => (g p.1).bind fun d => some (d, p.2)
theorem tv_cl {rc : List V → Hp → VK → Prop} {gc : List D → Option D} (hs : ClS X.K rc gc) {σ : L2.St} {H : Hp} {Q : VK} (h : tV X.K T [] true (fCl gc fr) σ H Q) : tCB rc (tVL X.K T O x fr) σ H Q := by
  obtain ⟨Z, ρ, Fs, d, ρ', rel, hf, q⟩ := h
  unfold fCl at hf
  obtain ⟨⟨ds, ρ1⟩, h1, hf⟩ := Option.bind_eq_some_iff.mp hf
  obtain ⟨d', h3, hf⟩ := Option.bind_eq_some_iff.mp hf
  cases hf
  refine ⟨Z, ρ, Fs, ds, _, rel, h1, fun vs H1 Z1 Fs1 F1 rel1 f1 w1 c1 => ?_⟩
  refine hs Z1 H1 ds vs F1 _ Q w1.r h3 fun v H' F k r nd nw => ?_
  have f3 := f1.trans (Frm.pureT [] k)
  rw [List.append_nil] at f3
  exact q v H' Z1 Fs1 F (rel1.keep0 k) f3 (Val.new rel1 r nd nw) (Cf.new f1.keep nw)
theorem pev_callB {id : String} {y : Str} {p : Pos} {rc : List V → Hp → VK → Prop} {gc : List D → Option D} (hc : CallR X (.builtin id) rc) (hs : ClS X.K rc gc) (hg : Gl X y) (hm : X.mg y = none) (hv : bootBuiltins y = some (.builtin id)) (ha : PAV X T O x (e :: es) fr)
    (hn : y ≠ "__name__" := by decide) (hdb : (y == ("__debug__" : Str)) = false := by decide) (he : starEach (e :: es) X.env = (false, eval e X.env) :: starEach es X.env := by rfl) (hpl : (backTo pos (starEach es X.env)).any (·.1) = false := by rfl) :
    PEV X T [] true (.Call (.Name y p) (e :: es) [] pos) (fCl gc fr) := PE.imp (pe_callB hc hg hm hv ha hn hdb he hpl) fun _ _ _ h => tv_cl hs h
theorem pev_callTy {id : String} {y : Str} {p : Pos} {rc : List V → Hp → VK → Prop} {gc : List D → Option D} (hc : CallR X (.type id) rc) (hs : ClS X.K rc gc) (hg : Gl X y) (hm : X.mg y = none) (hv : bootBuiltins y = some (.type id)) (ha : PAV X T O x (e :: es) fr)
    (hn : y ≠ "__name__" := by decide) (hdb : (y == ("__debug__" : Str)) = false := by decide) (he : starEach (e :: es) X.env = (false, eval e X.env) :: starEach es X.env := by rfl) (hpl : (backTo pos (starEach es X.env)).any (·.1) = false := by rfl) :
    PEV X T [] true (.Call (.Name y p) (e :: es) [] pos) (fCl gc fr) := PE.imp (pe_callTy hc hg hm hv ha hn hdb he hpl) fun _ _ _ h => tv_cl hs h
end
end Vl

namespace Vl
open PySem PySem.Spec PyProof.Rows L2

inductive Res where
  | nx (ρ : Env) | rt (d : D) (ρ : Env) | bk (ρ : Env) | ct (ρ : Env)
abbrev MS := Env → Option Res
/-- the end of a statement: the slots W may hold other objects, the slots T may be touched -/
structure Fin (K : PySem.W.Frag) (W T : List Nat) (Z : Addr → Prop) (ρ : Env) (Fs : Ft) (σ : L2.St) (H : Hp) (Z' : Addr → Prop) (ρ' : Env) (Fs' : Ft) (σ' : L2.St) (H' : Hp) : Prop where
  rel : Rel K Z' ρ' σ' H' Fs'
  frm : Frm T Z ρ Fs H Z' ρ' Fs' H'
  sg : ∀ j, j ∉ W → σ'[j]? = σ[j]?
  sl : σ'.length = σ.length
def tVS (K : PySem.W.Frag) (W T : List Nat) (f : MS) : TS := fun D σ H => ∃ Z ρ Fs r, Rel K Z ρ σ H Fs ∧ f ρ = some r ∧
  (∀ ρ', r = .nx ρ' → ∀ σ' H' Z' Fs', Fin K W T Z ρ Fs σ H Z' ρ' Fs' σ' H' → D.nx σ' H') ∧
  (∀ ρ', r = .bk ρ' → ∀ σ' H' Z' Fs', Fin K W T Z ρ Fs σ H Z' ρ' Fs' σ' H' → D.bk σ' H') ∧
  (∀ ρ', r = .ct ρ' → ∀ σ' H' Z' Fs', Fin K W T Z ρ Fs σ H Z' ρ' Fs' σ' H' → D.ct σ' H') ∧
  (∀ d ρ', r = .rt d ρ' → ∀ σ' v H' Z' Fs' F, Fin K W T Z ρ Fs σ H Z' ρ' Fs' σ' H' → Val K Z' H' Fs' [] true d v F → Cf T Fs H true F → D.rt v H')
abbrev PSV (X : Cx) (W T : List Nat) (st : Stmt) (f : MS) : Prop := PS X st (tVS X.K W T f)
abbrev PSsV (X : Cx) (W T : List Nat) (sts : List Stmt) (f : MS) : Prop := PSs X sts (tVS X.K W T f)

section
variable {K : PySem.W.Frag} {Z Z' Z1 Z2 : Addr → Prop} {ρ ρ' ρ1 ρ2 : Env} {Fs Fs' Fs1 Fs2 : Ft} {H H' H1 H2 : Hp} {T T1 T2 O O1 O2 W W1 W2 : List Nat} {x : Bool} {d : D} {v : V} {F : List Addr} {σ σ' σ1 σ2 : L2.St}
theorem Fin.trans (f1 : Fin K W1 T1 Z ρ Fs σ H Z1 ρ1 Fs1 σ1 H1) (f2 : Fin K W2 T2 Z1 ρ1 Fs1 σ1 H1 Z2 ρ2 Fs2 σ2 H2) : Fin K (W1 ++ W2) (T1 ++ T2) Z ρ Fs σ H Z2 ρ2 Fs2 σ2 H2 :=
  ⟨f2.rel, f1.frm.trans f2.frm, fun j hj => (f2.sg j fun z => hj (List.mem_append_right _ z)).trans (f1.sg j fun z => hj (List.mem_append_left _ z)), f2.sl.trans f1.sl⟩
theorem Fin.mono (f : Fin K W T Z ρ Fs σ H Z' ρ' Fs' σ' H') (hw : ∀ i ∈ W, i ∈ W1) (ht : ∀ i ∈ T, i ∈ T1) : Fin K W1 T1 Z ρ Fs σ H Z' ρ' Fs' σ' H' :=
  ⟨f.rel, f.frm.mono ht, fun j hj => f.sg j fun z => hj (hw j z), f.sl⟩
theorem Fin.left (W2 T2 : List Nat) (f : Fin K W1 T1 Z ρ Fs σ H Z' ρ' Fs' σ' H') : Fin K (W1 ++ W2) (T1 ++ T2) Z ρ Fs σ H Z' ρ' Fs' σ' H' := f.mono (fun j hj => List.mem_append_left _ hj) fun j hj => List.mem_append_left _ hj
theorem Fin.of (rel : Rel K Z' ρ' σ H' Fs') (f : Frm T Z ρ Fs H Z' ρ' Fs' H') : Fin K [] T Z ρ Fs σ H Z' ρ' Fs' σ H' := ⟨rel, f, fun _ _ => rfl, rfl⟩
theorem Fin.refl (W T : List Nat) (rel : Rel K Z ρ σ H Fs) : Fin K W T Z ρ Fs σ H Z ρ Fs σ H := ⟨rel, Frm.refl T, fun _ _ => rfl, rfl⟩
/-- a value put into a slot -/
theorem Rel.put {i : Nat} (rel : Rel K Z ρ σ H Fs) (w : Val K Z H Fs [] true d v F) : Rel K Z (ρ.set i (some d)) (σ.set i (some v)) H (fun j => if j = i then F else Fs j) := by
  refine ⟨fun j e he => ?_, fun j => ?_, fun j k a h1 h2 => ?_, fun j a h => ?_, rel.zt, fun j a h => ?_, by rw [List.length_set, List.length_set]; exact rel.len⟩
  · by_cases q : j = i
    · subst q
      by_cases hl : j < ρ.length
      · rw [List.getElem?_set_self hl] at he
        cases he
        simp only [if_pos rfl]
        exact ⟨v, List.getElem?_set_self (by rw [← rel.len]; exact hl), w.r⟩
      · rw [List.getElem?_eq_none (by simpa using hl)] at he; cases he
    · rw [List.getElem?_set_ne (Ne.symm q)] at he
      simp only [if_neg q]
      rw [List.getElem?_set_ne (Ne.symm q)]
      exact rel.at_ j e he
  · by_cases q : j = i
    · simp only [if_pos q]; exact (w.exc rfl).1
    · simp only [if_neg q]; exact rel.nd j
  · by_cases q : j = i
    · by_cases p : k = i
      · rw [q, p]
      · simp only [if_pos q] at h1
        simp only [if_neg p] at h2
        exact absurd (w.ori k a h1 h2) (by simp)
    · by_cases p : k = i
      · simp only [if_neg q] at h1
        simp only [if_pos p] at h2
        exact absurd (w.ori j a h2 h1) (by simp)
      · simp only [if_neg q] at h1
        simp only [if_neg p] at h2
        exact rel.dj j k a h1 h2
  · by_cases q : j = i
    · simp only [if_pos q] at h; exact (w.exc rfl).2 a h
    · simp only [if_neg q] at h; exact rel.nz j a h
  · by_cases q : j = i
    · simp only [if_pos q] at h; exact w.r.tr a h
    · simp only [if_neg q] at h; exact rel.ft j a h
theorem Frm.put {i : Nat} (f : Frm T Z ρ Fs H Z' ρ' Fs' H') (c : Cf T Fs H true F) : Frm (i :: T) Z ρ Fs H Z' (ρ'.set i (some d)) (fun j => if j = i then F else Fs' j) H' := by
  have f' := f.mono (T1 := i :: T) fun j hj => List.mem_cons_of_mem _ hj
  refine ⟨fun j hj => ?_, f'.keep, fun j hj a ha => ?_, f'.c3, f'.zz, by rw [List.length_set]; exact f.len⟩
  · have q : j ≠ i := fun e => hj (by rw [e]; exact List.mem_cons_self)
    have h := f'.sub j hj
    exact ⟨(if_neg q).trans h.1, (List.getElem?_set_ne (Ne.symm q)).trans h.2⟩
  · by_cases q : j = i
    · simp only [if_pos q] at ha
      exact (c rfl a ha).imp (fun ⟨k, hk, z⟩ => ⟨k, List.mem_cons_of_mem _ hk, z⟩) id
    · simp only [if_neg q] at ha
      exact f'.c1 j hj a ha
theorem Fin.put {i : Nat} (rel : Rel K Z' ρ' σ H' Fs') (f : Frm T Z ρ Fs H Z' ρ' Fs' H') (w : Val K Z' H' Fs' [] true d v F) (c : Cf T Fs H true F) :
    Fin K [i] (i :: T) Z ρ Fs σ H Z' (ρ'.set i (some d)) (fun j => if j = i then F else Fs' j) (σ.set i (some v)) H' :=
  ⟨rel.put w, f.put c, fun j hj => List.getElem?_set_ne (fun e => hj (by rw [e]; exact List.mem_cons_self)), by rw [List.length_set]⟩
end

/-! ### statements -/
def sSet (i : Nat) (f : M D) : MS := fun ρ => (f ρ).bind fun p => some (.nx (p.2.set i (some p.1)))
def sDrop (f : M D) : MS := fun ρ => (f ρ).bind fun p => some (.nx p.2)
def sRet (f : M D) : MS := fun ρ => (f ρ).bind fun p => some (.rt p.1 p.2)
def sRetN : MS := fun ρ => some (.rt .non ρ)
def sIf (c : M Bool) (a b : MS) : MS := fun ρ => (c ρ).bind fun p => if p.1 = true then a p.2 else b p.2
def sNil : MS := fun ρ => some (.nx ρ)
def sSeq (a b : MS) : MS := fun ρ => (a ρ).bind fun r => match r with
  | .nx ρ' => b ρ'
  | r => some r
def sBk : MS := fun ρ => some (.bk ρ)
def sCt : MS := fun ρ => some (.ct ρ)
def sAug (i : Nat) (T : List Nat) (g : D → D → Option D) (f : M D) : MS := fun ρ => (Env.at ρ i).bind fun o => (f ρ).bind fun p => if safe [i] T o = true then (g o p.1).bind fun d => some (.nx (p.2.set i (some d))) else none

section
variable {X : Cx} {T T1 T2 T3 O O1 O2 O3 W W1 W2 : List Nat} {x x1 x2 x3 : Bool} {e c : Expr} {f : M D} {fc : M Bool} {s1 s2 : MS} {st : Stmt} {sts a b : List Stmt} {pos : Pos}
theorem psv_set (i : Nat) {y : Str} {pos' : Pos} (hN : X.N.Nodup) (he : PEV X T [] true e f) (hi : X.N[i]? = some y := by rfl) (hx : Loc X.env.scope y := by first | exact Or.inl rfl | exact Or.inr rfl)
    (hs : swapsWith e (some (.Name y pos')) pos.line X.env = pure false := by rfl) (hf : X.fn y = true ∨ X.env.scope.names.lookup y = some .local := by first | exact .inl rfl | exact .inr rfl) :
    PSV X [i] (i :: T) (.Assign [.Name y pos'] e pos) (sSet i f) := by
  refine PS.imp (ps_set hN hi hx he hs hf) fun D σ H h => ?_
  obtain ⟨Z, ρ, Fs, r, rel, hf, h1, h2, h3, h4⟩ := h
  unfold sSet at hf
  obtain ⟨⟨d, ρ1⟩, hp, hf⟩ := Option.bind_eq_some_iff.mp hf
  cases hf
  exact ⟨Z, ρ, Fs, d, ρ1, rel, hp, fun v H' Z' Fs' F rel' f' w c => h1 _ rfl _ _ _ _ (Fin.put rel' f' w c)⟩
theorem psv_expr (he : PEV X T O x e f) (hs : swapsWith e none pos.line X.env = pure false := by rfl) : PSV X [] T (.Expr e pos) (sDrop f) := by
  refine PS.imp (ps_expr he hs) fun D σ H h => ?_
  obtain ⟨Z, ρ, Fs, r, rel, hf, h1, h2, h3, h4⟩ := h
  unfold sDrop at hf
  obtain ⟨⟨d, ρ1⟩, hp, hf⟩ := Option.bind_eq_some_iff.mp hf
  cases hf
  exact ⟨Z, ρ, Fs, d, ρ1, rel, hp, fun v H' Z' Fs' F rel' f' w c => h1 _ rfl _ _ _ _ (Fin.of rel' f')⟩
theorem psv_doc {z : Str} {j pos'} : PSV X [] [] (.Expr (.Constant (.str z) j pos) pos') sNil := by
  refine PS.imp ps_doc fun D σ H h => ?_
  obtain ⟨Z, ρ, Fs, r, rel, hf, h1, h2, h3, h4⟩ := h
  cases hf
  exact h1 _ rfl _ _ _ _ (Fin.refl _ _ rel)
theorem psv_pass : PSV X [] [] (.Pass pos) sNil := by
  refine PS.imp ps_pass fun D σ H h => ?_
  obtain ⟨Z, ρ, Fs, r, rel, hf, h1, h2, h3, h4⟩ := h
  cases hf
  exact h1 _ rfl _ _ _ _ (Fin.refl _ _ rel)
theorem psv_break : PSV X [] [] (.Break pos) sBk := by
  refine PS.imp ps_break fun D σ H h => ?_
  obtain ⟨Z, ρ, Fs, r, rel, hf, h1, h2, h3, h4⟩ := h
  cases hf
  exact h2 _ rfl _ _ _ _ (Fin.refl _ _ rel)
theorem psv_continue : PSV X [] [] (.Continue pos) sCt := by
  refine PS.imp ps_continue fun D σ H h => ?_
  obtain ⟨Z, ρ, Fs, r, rel, hf, h1, h2, h3, h4⟩ := h
  cases hf
  exact h3 _ rfl _ _ _ _ (Fin.refl _ _ rel)
/-- a statement that no run comes to -/
theorem psv_never : PSV X [] [] st (fun _ => none) := by
  refine PS.imp ps_never fun D σ H h => ?_
  obtain ⟨Z, ρ, Fs, r, rel, hf, h1, h2, h3, h4⟩ := h
  cases hf
theorem psv_ret (he : PEV X T [] true e f) : PSV X [] T (.Return (some e) pos) (sRet f) := by
  refine PS.imp (ps_ret he) fun D σ H h => ?_
  obtain ⟨Z, ρ, Fs, r, rel, hf, h1, h2, h3, h4⟩ := h
  unfold sRet at hf
  obtain ⟨⟨d, ρ1⟩, hp, hf⟩ := Option.bind_eq_some_iff.mp hf
  cases hf
  exact ⟨Z, ρ, Fs, d, ρ1, rel, hp, fun v H' Z' Fs' F rel' f' w c => h4 _ _ rfl _ _ _ _ _ _ (Fin.of rel' f') w c⟩
theorem psv_retN : PSV X [] [] (.Return none pos) sRetN := by
  refine PS.imp ps_retN fun D σ H h => ?_
  obtain ⟨Z, ρ, Fs, r, rel, hf, h1, h2, h3, h4⟩ := h
  cases hf
  exact h4 _ _ rfl _ _ _ _ _ [] (Fin.refl _ _ rel) ⟨.non, fun _ _ h => (by cases h), fun _ => ⟨List.nodup_nil, fun _ h => (by cases h)⟩⟩ Cf.nil
theorem pssv_nil : PSsV X [] [] [] sNil := by
  refine PSs.imp pss_nil fun D σ H h => ?_
  obtain ⟨Z, ρ, Fs, r, rel, hf, h1, h2, h3, h4⟩ := h
  cases hf
  exact h1 _ rfl _ _ _ _ (Fin.refl _ _ rel)
theorem pssv_one (h : PSV X W T st s1) : PSsV X W T [st] s1 := pss_one h
theorem pssv_cons (ha : PSV X W1 T1 st s1) (hb : PSsV X W2 T2 sts s2) : PSsV X (W1 ++ W2) (T1 ++ T2) (st :: sts) (sSeq s1 s2) := by
  refine PSs.imp (pss_cons ha hb) fun D σ H h => ?_
  obtain ⟨Z, ρ, Fs, r, rel, hf, h1, h2, h3, h4⟩ := h
  unfold sSeq at hf
  obtain ⟨r1, hp, hf⟩ := Option.bind_eq_some_iff.mp hf
  refine ⟨Z, ρ, Fs, r1, rel, hp, fun ρ' e σ' H' Z' Fs' fn => ?_, fun ρ' e σ' H' Z' Fs' fn => ?_, fun ρ' e σ' H' Z' Fs' fn => ?_, fun d ρ' e σ' v H' Z' Fs' F fn w c => ?_⟩
  · subst e
    refine ⟨Z', ρ', Fs', r, fn.rel, hf, fun ρ2 e σ2 H2 Z2 Fs2 fn2 => h1 _ e _ _ _ _ (fn.trans fn2), fun ρ2 e σ2 H2 Z2 Fs2 fn2 => h2 _ e _ _ _ _ (fn.trans fn2), fun ρ2 e σ2 H2 Z2 Fs2 fn2 => h3 _ e _ _ _ _ (fn.trans fn2),
      fun d ρ2 e σ2 v H2 Z2 Fs2 F fn2 w c => h4 _ _ e _ _ _ _ _ _ (fn.trans fn2) w (c.late fn.frm)⟩
  · subst e
    cases hf
    exact h2 _ rfl _ _ _ _ (fn.left _ _)
  · subst e
    cases hf
    exact h3 _ rfl _ _ _ _ (fn.left _ _)
  · subst e
    cases hf
    exact h4 _ _ rfl _ _ _ _ _ _ (fn.left _ _) w c.early
theorem psv_if (hc : PTV X T e fc) (ha : PSsV X W1 T1 a s1) (hb : PSsV X W2 T2 b s2) : PSV X (W1 ++ W2) (T ++ (T1 ++ T2)) (.If e a b pos) (sIf fc s1 s2) := by
  refine PS.imp (ps_if hc ha hb) fun D σ H h => ?_
  obtain ⟨Z, ρ, Fs, r, rel, hf, h1, h2, h3, h4⟩ := h
  unfold sIf at hf
  obtain ⟨⟨k, ρ1⟩, hp, hf⟩ := Option.bind_eq_some_iff.mp hf
  refine ⟨Z, ρ, Fs, k, ρ1, rel, hp, fun H1 Z1 Fs1 rel1 f1 => ?_⟩
  have fn1 := Fin.of rel1 f1
  cases k with
  | true =>
    have up : ∀ {Z2 ρ2 Fs2 σ2 H2}, Fin X.K W1 T1 Z1 ρ1 Fs1 σ H1 Z2 ρ2 Fs2 σ2 H2 → Fin X.K (W1 ++ W2) (T ++ (T1 ++ T2)) Z ρ Fs σ H Z2 ρ2 Fs2 σ2 H2 := fun fn => fn1.trans (fn.left W2 T2)
    exact ⟨Z1, ρ1, Fs1, r, rel1, hf, fun ρ2 e σ2 H2 Z2 Fs2 fn2 => h1 _ e _ _ _ _ (up fn2), fun ρ2 e σ2 H2 Z2 Fs2 fn2 => h2 _ e _ _ _ _ (up fn2), fun ρ2 e σ2 H2 Z2 Fs2 fn2 => h3 _ e _ _ _ _ (up fn2),
      fun d ρ2 e σ2 v H2 Z2 Fs2 F fn2 w c => h4 _ _ e _ _ _ _ _ _ (up fn2) w (Cf.late f1 c.early)⟩
  | false =>
    have up : ∀ {Z2 ρ2 Fs2 σ2 H2}, Fin X.K W2 T2 Z1 ρ1 Fs1 σ H1 Z2 ρ2 Fs2 σ2 H2 → Fin X.K (W1 ++ W2) (T ++ (T1 ++ T2)) Z ρ Fs σ H Z2 ρ2 Fs2 σ2 H2 := fun fn => fn1.trans (fn.mono (fun j hj => List.mem_append_right _ hj) fun j hj => List.mem_append_right _ hj)
    exact ⟨Z1, ρ1, Fs1, r, rel1, hf, fun ρ2 e σ2 H2 Z2 Fs2 fn2 => h1 _ e _ _ _ _ (up fn2), fun ρ2 e σ2 H2 Z2 Fs2 fn2 => h2 _ e _ _ _ _ (up fn2), fun ρ2 e σ2 H2 Z2 Fs2 fn2 => h3 _ e _ _ _ _ (up fn2),
      fun d ρ2 e σ2 v H2 Z2 Fs2 F fn2 w c => h4 _ _ e _ _ _ _ _ _ (up fn2) w (Cf.late f1 (c.mono fun j hj => List.mem_append_right _ hj))⟩
theorem psv_aug (i : Nat) {y : Str} {pos' : Pos} {op : Operator} {ti : TIp} {g : D → D → Option D} (hN : X.N.Nodup) (ho : PIp X op ti) (hs : OpS X.K ti g) (he : PEV X T O x e f) (hi : X.N[i]? = some y := by rfl) (hx : Loc X.env.scope y := by first | exact Or.inl rfl | exact Or.inr rfl)
    (hf : X.fn y = true ∨ X.env.scope.names.lookup y = some .local := by first | exact .inl rfl | exact .inr rfl) :
    PSV X [i] (i :: T) (.AugAssign (.Name y pos') op e pos) (sAug i T g f) := by
  refine PS.imp (ps_aug hN hi hx he ho hf) fun D σ H h => ?_
  obtain ⟨Z, ρ, Fs, r, rel, hf, h1, h2, h3, h4⟩ := h
  unfold sAug at hf
  obtain ⟨o, h0, hf⟩ := Option.bind_eq_some_iff.mp hf
  obtain ⟨⟨d, ρ1⟩, hp, hf⟩ := Option.bind_eq_some_iff.mp hf
  split at hf
  · rename_i hsf
    obtain ⟨d', h5, hf⟩ := Option.bind_eq_some_iff.mp hf
    cases hf
    obtain ⟨v0, hv0, r0⟩ := rel.at_ i o (Env.at_some h0)
    refine ⟨v0, hv0, Z, ρ, Fs, d, ρ1, rel, hp, fun v H' Z' Fs' F rel' f' w c => ?_⟩
    have w0 : Val X.K Z H Fs [i] false o v0 (Fs i) := ⟨r0, fun j a h1 h2 => by rw [rel.dj i j a h1 h2]; exact List.mem_cons_self, fun h => (by cases h)⟩
    have w0' := w0.keep rel f' hsf
    refine hs Z' H' o d v0 v (Fs i) F _ _ w0'.r w.r h5 fun z H2 F2 k r2 nd nw => ?_
    have f3 := f'.trans (Frm.pureT [] k)
    rw [List.append_nil] at f3
    exact h1 _ rfl _ _ _ _ (Fin.put (rel'.keep0 k) f3 (Val.new rel' r2 nd nw) (Cf.new f'.keep nw))
  · cases hf
end
end Vl

namespace Vl
open PySem PySem.Spec PyProof.Rows L2

/-! ### what is walked -/
/-- while A and the known set are kept, the walk stands and its items are these data -/
def Stay (K : PySem.W.Frag) (Z' : Addr → Prop) (H' : Hp) (A : List Addr) (G : Hp → Prop) (Y : Nat → Hp → V → Hp → Prop) (items : List D) : Prop :=
  ∀ (M : Addr → Prop) (Z2 : Addr → Prop) (H2 : Hp), Keep M H' H2 → (∀ a ∈ A, ¬ M a) → (∀ a, Z' a → ¬ M a) → (∀ a, Z' a → Z2 a) → G H2 ∧ ∀ i x h d, Y i H2 x h → items[i]? = some d → Keep M0 H2 h ∧ R K Z2 h d x []
def tVI (K : PySem.W.Frag) (T O : List Nat) (f : M (List D)) : TI := fun σ H Rk => ∃ Z ρ Fs items ρ', Rel K Z ρ σ H Fs ∧ f ρ = some (items, ρ') ∧
  ∀ J H' Z' Fs' A G Y, Rel K Z' ρ' σ H' Fs' → Frm T Z ρ Fs H Z' ρ' Fs' H' → Walk J items.length G Y → (∀ j a, a ∈ A → a ∈ Fs' j → j ∈ O) → Stay K Z' H' A G Y items → Rk J H'
abbrev PIV (X : Cx) (T O : List Nat) (tg e : Expr) (f : M (List D)) : Prop := PI X tg e (tVI X.K T O f)
theorem PI.imp {X : Cx} {tg e : Expr} {t t' : TI} (h : PI X tg e t) (i : ∀ σ H Q, t' σ H Q → t σ H Q) : PI X tg e t' := ⟨fun pins s σ H Q I q => h.run pins s σ H Q I (i σ H Q q)⟩

/-! ### targets of shared data -/
def tVG (K : PySem.W.Frag) (W T : List Nat) (g : D → Env → Option Env) : TG := fun v σ H Q => ∃ Z ρ Fs d ρ', Rel K Z ρ σ H Fs ∧ R K Z H d v [] ∧ g d ρ = some ρ' ∧
  ∀ σ' H' Z' Fs', Fin K W T Z ρ Fs σ H Z' ρ' Fs' σ' H' → Q σ' H'
def tVGs (K : PySem.W.Frag) (W T : List Nat) (g : List D → Env → Option Env) : TGs := fun vs σ H Q => ∃ Z ρ Fs ds ρ', Rel K Z ρ σ H Fs ∧ Rs K Z H ds vs [] ∧ g ds ρ = some ρ' ∧
  ∀ σ' H' Z' Fs', Fin K W T Z ρ Fs σ H Z' ρ' Fs' σ' H' → Q σ' H'
abbrev PGV (X : Cx) (W T : List Nat) (tg : Expr) (g : D → Env → Option Env) : Prop := PG X tg (tVG X.K W T g)
abbrev PGsV (X : Cx) (W T : List Nat) (tgs : List Expr) (g : List D → Env → Option Env) : Prop := PGs X tgs (tVGs X.K W T g)
theorem PG.imp {X : Cx} {tg : Expr} {t t' : TG} (h : PG X tg t) (i : ∀ v σ H Q, t' v σ H Q → t v σ H Q) : PG X tg t' := ⟨fun pins s σ H v u Q I r q => h.run pins s σ H v u Q I r (i v σ H Q q)⟩
theorem PGs.imp {X : Cx} {tg : List Expr} {t t' : TGs} (h : PGs X tg t) (i : ∀ v σ H Q, t' v σ H Q → t v σ H Q) : PGs X tg t' := ⟨fun pins s σ H v u Q I r q => h.run pins s σ H v u Q I r (i v σ H Q q)⟩
def gNm (i : Nat) : D → Env → Option Env := fun d ρ => some (ρ.set i (some d))
def gsNil : List D → Env → Option Env := fun ds ρ => match ds with
  | [] => some ρ
  | _ => none
def gsCons (g : D → Env → Option Env) (gs : List D → Env → Option Env) : List D → Env → Option Env := fun ds ρ => match ds with
  | d :: r => (g d ρ).bind fun ρ' => gs r ρ'
  | [] => none
def gTp (n : Nat) (gs : List D → Env → Option Env) : D → Env → Option Env := fun d ρ => match d with
  | .tup l => if l.length = n then gs l ρ else none
  | _ => none

section
variable {X : Cx} {T T1 T2 T3 O O1 O2 O3 W W1 W2 Wg Tg Wb Tb : List Nat} {x x1 x2 x3 : Bool} {e c tg iter : Expr} {f : M D} {fi fr : M (List D)} {fc : M Bool} {s1 s2 sb : MS} {st : Stmt} {sts a b body es : List Expr} {bd : List Stmt} {pos : Pos} {g : D → Env → Option Env} {gs : List D → Env → Option Env}
theorem Rs.ofR {K : PySem.W.Frag} {Z : Addr → Prop} {H : Hp} {d : D} {v : V} (r : R K Z H d v []) (fs : Ft) : Val K Z H fs [] true d v [] := ⟨r, fun _ _ h => (by cases h), fun _ => ⟨List.nodup_nil, fun _ h => (by cases h)⟩⟩
theorem pgv_name (i : Nat) {y : Str} (hN : X.N.Nodup) (hi : X.N[i]? = some y := by rfl) (hx : Loc X.env.scope y := by first | exact Or.inl rfl | exact Or.inr rfl) (hf : X.fn y = true ∨ X.env.scope.names.lookup y = some .local := by first | exact .inl rfl | exact .inr rfl) :
    PGV X [i] [i] (.Name y pos) (gNm i) := by
  refine PG.imp (pg_name hN hi hx hf) fun v σ H Q h => ?_
  obtain ⟨Z, ρ, Fs, d, ρ', rel, r, hg, q⟩ := h
  cases hg
  exact q _ _ _ _ (Fin.put rel (Frm.refl []) (Rs.ofR r Fs) Cf.nil)
theorem pgsv_nil : PGsV X [] [] [] gsNil := by
  refine PGs.imp pgs_nil fun v σ H Q h => ?_
  obtain ⟨Z, ρ, Fs, ds, ρ', rel, r, hg, q⟩ := h
  cases ds with
  | nil =>
    cases hg
    have e := r.length
    exact ⟨List.eq_nil_of_length_eq_zero e.symm, q _ _ _ _ (Fin.refl _ _ rel)⟩
  | cons _ _ => cases hg
theorem pgsv_cons {es : List Expr} (h1 : PGV X W1 T1 e g) (h2 : PGsV X W2 T2 es gs) (hs : (assignEach (e :: es) X.env).map (·.2) = assign e X.env :: (assignEach es X.env).map (·.2) := by rfl) : PGsV X (W1 ++ W2) (T1 ++ T2) (e :: es) (gsCons g gs) := by
  refine PGs.imp (pgs_cons h1 h2 hs) fun v σ H Q h => ?_
  obtain ⟨Z, ρ, Fs, ds, ρ', rel, r, hg, q⟩ := h
  generalize hF : ([] : List Addr) = F at r
  cases r with
  | nil => cases hg
  | cons r rs =>
    obtain ⟨e1, e2⟩ := app_eq_nil hF.symm
    subst e1
    subst e2
    obtain ⟨ρ1, h3, h4⟩ := Option.bind_eq_some_iff.mp hg
    refine ⟨_, _, rfl, Z, ρ, Fs, _, ρ1, rel, r, h3, fun σ1 H1 Z1 Fs1 fn1 => ?_⟩
    exact ⟨Z1, ρ1, Fs1, _, ρ', fn1.rel, rs.keep fn1.frm.keep fn1.frm.zz (fun a z ⟨j, hj, ha⟩ => rel.nz j a ha z) (fun a h => (by cases h)), h4, fun σ2 H2 Z2 Fs2 fn2 => q _ _ _ _ (fn1.trans fn2)⟩
theorem R.tup_inv {K : PySem.W.Frag} {Z : Addr → Prop} {H : Hp} {ds : List D} {v : V} {F : List Addr} (r : R K Z H (.tup ds) v F) : ∃ a vs, v = .ref a ∧ SqT K H a vs ∧ Rs K Z H ds vs F := by
  cases r with
  | tup h rs => exact ⟨_, _, rfl, SqT.of h, rs⟩
theorem R.tup_tr {K : PySem.W.Frag} {Z : Addr → Prop} {H : Hp} {ds : List D} {v : V} {F : List Addr} (r : R K Z H (.tup ds) v F) : ∃ a vs, v = .ref a ∧ H a = some (.tup vs) ∧ Rs K Z H ds vs F := by
  cases r with
  | tup h rs => exact ⟨_, _, rfl, h, rs⟩
theorem pgv_tup {es : List Expr} {k : Nat} {n : Nat} (hc : X.calm = true) (h : PGsV X W T es gs) (hn : (assignEach es X.env).length = n := by rfl) (hst : (assignEach es X.env).findIdx? (·.1) = none := by rfl) : PGV X W T (.Tuple es k pos) (gTp n gs) := by
  refine PG.imp (pg_tup hc h hn hst) fun v σ H Q h => ?_
  obtain ⟨Z, ρ, Fs, d, ρ', rel, r, hg, q⟩ := h
  unfold gTp at hg
  split at hg
  · split at hg
    · rename_i hl
      obtain ⟨a, vs, e, hq, rs⟩ := r.tup_inv
      exact ⟨a, vs, e, hq, by rw [← rs.length]; exact hl, Z, ρ, Fs, _, ρ', rel, rs, hg, q⟩
    · cases hg
  · cases hg
/-- target = e, of data without owned things -/
def sAsg (g : D → Env → Option Env) (f : M D) : MS := fun ρ => (f ρ).bind fun p => if p.1.noOwn = true then (g p.1 p.2).bind fun ρ' => some (.nx ρ') else none
theorem psv_asg (he : PEV X T1 O1 x1 e f) (hg : PGV X W T2 tg g) (hs : swapsWithSole [tg] e pos.line X.env = pure false := by rfl) (hw : swappedStores [tg] e X.env = pure none := by rfl) (h1 : (assignEach [tg] X.env).map (·.2) = [assign tg X.env] := by rfl) :
    PSV X W (T1 ++ T2) (.Assign [tg] e pos) (sAsg g f) := by
  refine PS.imp (ps_asg he hg hs hw h1) fun D σ H h => ?_
  obtain ⟨Z, ρ, Fs, r, rel, hf, h1, h2, h3, h4⟩ := h
  unfold sAsg at hf
  obtain ⟨⟨d, ρ1⟩, hp, hf⟩ := Option.bind_eq_some_iff.mp hf
  split at hf
  · rename_i hn
    obtain ⟨ρ2, h5, hf⟩ := Option.bind_eq_some_iff.mp hf
    cases hf
    refine ⟨Z, ρ, Fs, d, ρ1, rel, hp, fun v H' Z' Fs' F rel' f' w c => ?_⟩
    have e := w.r.no hn
    subst e
    exact ⟨Z', ρ1, Fs', d, ρ2, rel', w.r, h5, fun σ2 H2 Z2 Fs2 fn2 => h1 _ rfl _ _ _ _ ((Fin.of rel' f').trans fn2)⟩
  · cases hf
/-- a, b = x, y with plain local names -/
def sPar (i j : Nat) (f : M (List D)) : MS := fun ρ => (f ρ).bind fun p => match p.1 with
  | [d, e] => some (.nx ((p.2.set i (some d)).set j (some e)))
  | _ => none
theorem psv_par (i j : Nat) {y z : Str} {a b : Expr} {px py pt : Pos} {kt k2 pt2} (hc : X.calm = true) (hN : X.N.Nodup) (ha : PAV X T [] true [a, b] fr) (hw : swappedStores [.Tuple [.Name y px, .Name z py] kt pt] (.Tuple [a, b] k2 pt2) X.env = pure (some [y, z]))
    (hi : X.N[i]? = some y := by rfl) (hj : X.N[j]? = some z := by rfl) (hij : i ≠ j := by decide) (hx : X.env.scope.names.lookup y = some .local := by rfl) (hy : X.env.scope.names.lookup z = some .local := by rfl)
    (hs : swapsWithSole [.Tuple [.Name y px, .Name z py] kt pt] (.Tuple [a, b] k2 pt2) pos.line X.env = pure false := by rfl) :
    PSV X [i, j] (j :: i :: T) (.Assign [.Tuple [.Name y px, .Name z py] kt pt] (.Tuple [a, b] k2 pt2) pos) (sPar i j fr) := by
  refine PS.imp (ps_par hc hN hi hj hij hx hy ha hw hs) fun D σ H h => ?_
  obtain ⟨Z, ρ, Fs, r, rel, hf, h1, h2, h3, h4⟩ := h
  unfold sPar at hf
  obtain ⟨⟨ds, ρ1⟩, hp, hf⟩ := Option.bind_eq_some_iff.mp hf
  refine ⟨Z, ρ, Fs, ds, ρ1, rel, hp, fun vs H' Z' Fs' F rel' f' w c => ?_⟩
  split at hf
  · rename_i d e hde
    cases hf
    have hde : ds = [d, e] := hde
    subst hde
    obtain ⟨v1, ws, F1, G, rfl, rfl, r1, rs⟩ := w.r.uncons
    obtain ⟨v2, ws2, F2, G2, rfl, rfl, r2, rs2⟩ := rs.uncons
    cases rs2
    rw [List.append_nil] at w c
    obtain ⟨nd, nz⟩ := w.exc rfl
    obtain ⟨nd1, nd2, nd12⟩ := List.nodup_append.mp nd
    have c1 : Cf T Fs H true F1 := fun h a ha => c h a (List.mem_append_left _ ha)
    have c2 : Cf T Fs H true F2 := fun h a ha => c h a (List.mem_append_right _ ha)
    have w1 : Val X.K Z' H' Fs' [] true d v1 F1 := ⟨r1, fun j a h1 h2 => w.ori j a (List.mem_append_left _ h1) h2, fun _ => ⟨nd1, fun a ha => nz a (List.mem_append_left _ ha)⟩⟩
    have p1 := Fin.put (i := i) rel' f' w1 c1
    have w2 : Val X.K Z' H' (fun k => if k = i then F1 else Fs' k) [] true e v2 F2 := ⟨r2, fun k a h1 h2 => ?_, fun _ => ⟨nd2, fun a ha => nz a (List.mem_append_right _ ha)⟩⟩
    · refine ⟨v1, v2, rfl, h1 _ rfl _ _ _ _ ⟨p1.rel.put w2, p1.frm.put (c2.mono fun k hk => List.mem_cons_of_mem _ hk), fun k hk => ?_, by rw [List.length_set, List.length_set]⟩⟩
      have hk1 : k ≠ i := fun e => hk (by rw [e]; simp)
      have hk2 : k ≠ j := fun e => hk (by rw [e]; simp)
      rw [List.getElem?_set_ne (Ne.symm hk2), List.getElem?_set_ne (Ne.symm hk1)]
    · by_cases q : k = i
      · simp only [if_pos q] at h2
        exact absurd rfl (nd12 a h2 a h1)
      · simp only [if_neg q] at h2
        exact w.ori k a (List.mem_append_right _ h1) h2
  · cases hf

/-! ### for -/
def forL (g : D → Env → Option Env) (body : MS) : List D → Env → Option Res
  | [], ρ => some (.nx ρ)
  | d :: ds, ρ => (g d ρ).bind fun ρ1 => (body ρ1).bind fun r => match r with
    | .nx ρ2 => forL g body ds ρ2
    | .ct ρ2 => forL g body ds ρ2
    | .bk ρ2 => some (.nx ρ2)
    | .rt d ρ2 => some (.rt d ρ2)
def sFor (fi : M (List D)) (g : D → Env → Option Env) (body : MS) : MS := fun ρ => (fi ρ).bind fun p => forL g body p.1 p.2
theorem tv_for {K : PySem.W.Frag} (ho : O.all (fun i => !(Tg ++ Tb).contains i) = true) {D : Ends} {σ : L2.St} {H : Hp} (h : tVS K (Wg ++ Wb) (T ++ (Tg ++ Tb)) (sFor fi g sb) D σ H) : tFor (tVI K T O fi) (tVG K Wg Tg g) (tVS K Wb Tb sb) D σ H := by
  obtain ⟨Z, ρ, Fs, r, rel, hf, h1, h2, h3, h4⟩ := h
  unfold sFor at hf
  obtain ⟨⟨items, ρ0⟩, hp, hf⟩ := Option.bind_eq_some_iff.mp hf
  refine ⟨Z, ρ, Fs, items, ρ0, rel, hp, fun J H0 Z0 Fs0 A G Y rel0 f0 wk hA stay => ?_⟩
  have far : ∀ a ∈ A, ¬ ∃ j ∈ Tg ++ Tb, a ∈ Fs0 j := fun a ha ⟨j, hj, hf⟩ => by
    have q := List.all_eq_true.mp ho j (hA j a ha hf)
    simp only [Bool.not_eq_true', List.contains_eq_mem, decide_eq_false_iff_not] at q
    exact q hj
  have znot : ∀ a, Z0 a → ¬ ∃ j ∈ Tg ++ Tb, a ∈ Fs0 j := fun a z ⟨j, _, ha⟩ => rel0.nz j a ha z
  have fin0 := Fin.of (σ := σ) rel0 f0
  refine for_it (n := items.length) wk (fun i σi Hi => ∃ Zi ρi Fsi, Fin K (Wg ++ Wb) (Tg ++ Tb) Z0 ρ0 Fs0 σ H0 Zi ρi Fsi σi Hi ∧ forL g sb (items.drop i) ρi = some r)
    ⟨Z0, ρ0, Fs0, Fin.refl _ _ rel0, by rw [List.drop_zero]; exact hf⟩ (fun i σi Hi hi ⟨Zi, ρi, Fsi, fn, _⟩ => (stay _ Zi Hi fn.frm.keep far znot fn.frm.zz).1) (fun i v σi Hi H' hi ⟨Zi, ρi, Fsi, fn, hl⟩ y => ?_) (fun σi Hi ⟨Zi, ρi, Fsi, fn, hl⟩ => ?_)
  · have hd : items[i]? = some items[i] := List.getElem?_eq_getElem hi
    obtain ⟨k, rv⟩ := (stay _ Zi Hi fn.frm.keep far znot fn.frm.zz).2 i v H' _ y hd
    rw [List.drop_eq_getElem_cons hi] at hl
    obtain ⟨ρ1, hg1, hl⟩ := Option.bind_eq_some_iff.mp hl
    obtain ⟨r1, hb1, hl⟩ := Option.bind_eq_some_iff.mp hl
    have rel1 := fn.rel.keep0 k
    have fn0 : Fin K (Wg ++ Wb) (Tg ++ Tb) Z0 ρ0 Fs0 σ H0 Zi ρi Fsi σi H' := by
      have f3 := fn.frm.trans (Frm.pureT [] k)
      rw [List.append_nil] at f3
      exact ⟨rel1, f3, fn.sg, fn.sl⟩
    refine ⟨Zi, ρi, Fsi, items[i], ρ1, rel1, rv, hg1, fun σ2 H2 Z2 Fs2 fn2 => ?_⟩
    have up : ∀ {Z3 ρ3 Fs3 σ3 H3}, Fin K Wb Tb Z2 ρ1 Fs2 σ2 H2 Z3 ρ3 Fs3 σ3 H3 → Fin K (Wg ++ Wb) (Tg ++ Tb) Z0 ρ0 Fs0 σ H0 Z3 ρ3 Fs3 σ3 H3 := fun fn3 =>
      (fn0.trans (fn2.trans fn3)).mono (fun j hj => (List.mem_append.mp hj).elim id id) (fun j hj => (List.mem_append.mp hj).elim id id)
    refine ⟨Z2, ρ1, Fs2, r1, fn2.rel, hb1, fun ρ3 e σ3 H3 Z3 Fs3 fn3 => ?_, fun ρ3 e σ3 H3 Z3 Fs3 fn3 => ?_, fun ρ3 e σ3 H3 Z3 Fs3 fn3 => ?_, fun d ρ3 e σ3 v3 H3 Z3 Fs3 F fn3 w cf => ?_⟩
    · subst e
      exact ⟨Z3, ρ3, Fs3, up fn3, hl⟩
    · subst e
      cases hl
      exact h1 _ rfl _ _ _ _ (fin0.trans (up fn3))
    · subst e
      exact ⟨Z3, ρ3, Fs3, up fn3, hl⟩
    · subst e
      cases hl
      have ca := Cf.late fn2.frm cf
      have cb := (Cf.late fn0.frm ca).mono (T1 := Tg ++ Tb) fun j hj => (List.mem_append.mp hj).elim id id
      exact h4 _ _ rfl _ _ _ _ _ _ (fin0.trans (up fn3)) w (Cf.late f0 cb)
  · rw [List.drop_length] at hl
    cases hl
    exact h1 _ rfl _ _ _ _ (fin0.trans fn)
theorem psv_for (hp : PassesOwn (model X.prog X.w) X.A X.env X.xe) (hc : X.calm = true) (hi : PIV X T O tg iter fi) (hg : PGV X Wg Tg tg g) (hb : PSsV X Wb Tb bd sb) (ho : O.all (fun i => !(Tg ++ Tb).contains i) = true := by rfl)
    (hs : ∀ x, foldedSetIterable iter X.env x = pure x := by intro _; rfl) : PSV X (Wg ++ Wb) (T ++ (Tg ++ Tb)) (.For tg iter bd [] pos) (sFor fi g sb) := by
  exact PS.imp (ps_for hp hc hi hg hb hs) fun D σ H h => tv_for ho h
end
end Vl

namespace Vl
open PySem PySem.Spec PyProof.Rows L2

/-! ### while -/
def whileN : Nat → M Bool → MS → Env → Option Res
  | 0, _, _, _ => none
  | n + 1, t, b, ρ => (t ρ).bind fun p => if p.1 = true then (b p.2).bind fun r => match r with
      | .nx ρ2 => whileN n t b ρ2
      | .ct ρ2 => whileN n t b ρ2
      | .bk ρ2 => some (.nx ρ2)
      | .rt d ρ2 => some (.rt d ρ2)
    else some (.nx p.2)
def fuel : Nat := 1000000
def sWhile (t : M Bool) (b : MS) : MS := whileN fuel t b
theorem whileN_mono {t : M Bool} {b : MS} : ∀ {n m : Nat} {ρ : Env} {r : Res}, n ≤ m → whileN n t b ρ = some r → whileN m t b ρ = some r
  | 0, _, _, _, _, h => nomatch h
  | n + 1, 0, _, _, h, _ => absurd h (by omega)
  | n + 1, m + 1, ρ, r, hm, h => by
    unfold whileN at h ⊢
    obtain ⟨p, h1, h⟩ := Option.bind_eq_some_iff.mp h
    rw [h1]
    show (if p.1 = true then _ else _) = _
    split at h
    · rename_i hp
      rw [if_pos hp]
      obtain ⟨q, h2, h⟩ := Option.bind_eq_some_iff.mp h
      rw [h2]
      cases q with
      | nx ρ2 => exact whileN_mono (by omega) h
      | ct ρ2 => exact whileN_mono (by omega) h
      | bk ρ2 => exact h
      | rt d ρ2 => exact h
    · rename_i hp
      rw [if_neg hp]
      exact h
theorem sWhile_of {t : M Bool} {b : MS} {n : Nat} {ρ : Env} {r : Res} (hn : n ≤ fuel) (h : whileN n t b ρ = some r) : sWhile t b ρ = some r := whileN_mono hn h

section
variable {X : Cx} {T T1 T2 T3 O O1 O2 O3 W W1 W2 Wg Tg Wb Tb : List Nat} {x x1 x2 x3 : Bool} {e c tg iter : Expr} {f fa : M D} {fi fr : M (List D)} {fc : M Bool} {s1 s2 sb : MS} {st : Stmt} {sts a b body es : List Expr} {bd : List Stmt} {pos : Pos} {g : D → Env → Option Env} {gs : List D → Env → Option Env}
theorem psv_while (hp : PassesOwn (model X.prog X.w) X.A X.env X.xe) (hc : PTV X T c fc) (hb : PSsV X Wb Tb bd sb) : PSV X Wb (T ++ Tb) (.While c bd [] pos) (sWhile fc sb) := by
  refine PS.imp (ps_while hp hc hb) fun D σ H h => ?_
  obtain ⟨Z, ρ, Fs, r, rel, hf, h1, h2, h3, h4⟩ := h
  refine ⟨fun n σi Hi => ∃ Zi ρi Fsi, Fin X.K Wb (T ++ Tb) Z ρ Fs σ H Zi ρi Fsi σi Hi ∧ whileN n fc sb ρi = some r, ⟨fuel, Z, ρ, Fs, Fin.refl _ _ rel, hf⟩, fun n σi Hi ⟨Zi, ρi, Fsi, fn, hl⟩ => ?_⟩
  cases n with
  | zero => cases hl
  | succ n =>
    unfold whileN at hl
    obtain ⟨⟨k, ρ1⟩, ht, hl⟩ := Option.bind_eq_some_iff.mp hl
    refine ⟨Zi, ρi, Fsi, k, ρ1, fn.rel, ht, fun H1 Z1 Fs1 rel1 f1 => ?_⟩
    have fn1 := fn.trans (Fin.of rel1 f1)
    cases k with
    | false =>
      rw [if_neg Bool.false_ne_true] at hl
      cases hl
      refine iteF ?_
      exact h1 _ rfl _ _ _ _ (fn1.mono (fun j hj => (List.mem_append.mp hj).elim id fun h => (by cases h)) fun j hj => (List.mem_append.mp hj).elim id fun h => List.mem_append_left _ h)
    | true =>
      rw [if_pos rfl] at hl
      refine iteT ?_
      obtain ⟨q, hb1, hl⟩ := Option.bind_eq_some_iff.mp hl
      have up : ∀ {Z3 ρ3 Fs3 σ3 H3}, Fin X.K Wb Tb Z1 ρ1 Fs1 σi H1 Z3 ρ3 Fs3 σ3 H3 → Fin X.K Wb (T ++ Tb) Z ρ Fs σ H Z3 ρ3 Fs3 σ3 H3 := fun fn3 =>
        (fn1.trans fn3).mono (fun j hj => (List.mem_append.mp hj).elim (fun h => (List.mem_append.mp h).elim id fun h => (by cases h)) id)
          fun j hj => (List.mem_append.mp hj).elim (fun h => (List.mem_append.mp h).elim id fun h => List.mem_append_left _ h) fun h => List.mem_append_right _ h
      refine ⟨fun σ' H' => ∃ Z3 ρ3 Fs3, Fin X.K Wb (T ++ Tb) Z ρ Fs σ H Z3 ρ3 Fs3 σ' H' ∧ whileN n fc sb ρ3 = some r, fun σ' H' h => ⟨n, Nat.lt_succ_self n, h⟩, ?_⟩
      refine ⟨Z1, ρ1, Fs1, q, rel1, hb1, fun ρ3 e σ3 H3 Z3 Fs3 fn3 => ?_, fun ρ3 e σ3 H3 Z3 Fs3 fn3 => ?_, fun ρ3 e σ3 H3 Z3 Fs3 fn3 => ?_, fun d ρ3 e σ3 v3 H3 Z3 Fs3 F fn3 w cf => ?_⟩
      · subst e
        exact ⟨Z3, ρ3, Fs3, up fn3, hl⟩
      · subst e
        cases hl
        exact h1 _ rfl _ _ _ _ (up fn3)
      · subst e
        exact ⟨Z3, ρ3, Fs3, up fn3, hl⟩
      · subst e
        cases hl
        refine h4 _ _ rfl _ _ _ _ _ _ (up fn3) w ?_
        exact (Cf.late fn1.frm cf).mono fun j hj => (List.mem_append.mp hj).elim (fun h => (List.mem_append.mp h).elim id fun h => List.mem_append_left _ h) fun h => List.mem_append_right _ h

/-! ### what is walked: lists and tuples -/
def itemsOf : D → Option (List D)
  | .tup l => if D.noOwnL l = true then some l else none
  | .lst _ l => if D.noOwnL l = true then some l else none
  | .scr l => if D.noOwnL l = true then some l else none
  | _ => none
def iSeq (f : M D) : M (List D) := fun ρ => (f ρ).bind fun p => (itemsOf p.1).bind fun l => some (l, p.2)
def tSq (K : PySem.W.Frag) (tl : TE) : TI := fun σ H Rk => tl σ H fun x H1 => ∃ a, x = .ref a ∧ ((∃ xs, SqL K H1 a xs ∧ Rk (Itl K a) H1) ∨ (∃ xs, SqT K H1 a xs ∧ Rk (Itt K a) H1))
theorem pi_sq {l : Expr} {tl : TE} (hl : PE X l tl) : PI X tg l (tSq X.K tl) := by
  refine ⟨fun pins s σ H Rk I h => ?_⟩
  refine thn (hl.run pins s σ H _ I h) fun v s1 ⟨x, H1, I1, r1, q1⟩ => ?_
  obtain ⟨a, e, q⟩ := q1
  subst e
  cases r1
  rcases q with ⟨xs, hq, q⟩ | ⟨xs, hq, q⟩
  · obtain ⟨its, rv, p, hz⟩ := I1.list hq
    refine wpAny_pyIter_list p.isList ?_
    refine ⟨s1.heap.objs.size, [s1.heap.objs.size], _, _, H1, rfl, I1.kept (t' := s1.toks) fun b o e => Heap.get?_push_of_some _ e, turn_list a _, ⟨_, Heap.get?_push_size _ rfl, rfl, rfl⟩, fun b hb => ?_, q⟩
    have e : b = s1.heap.objs.size := by simpa using hb
    subst e
    exact I1.fpOk (Nat.le_refl _) (I1.hok.fresh (Nat.le_refl _))
  · obtain ⟨its, rv, p, hz⟩ := I1.tuple hq
    refine wpAny_pyIter_tuple (show s1.heap.IsTuple a its.toArray from p) ?_
    refine ⟨s1.heap.objs.size, [s1.heap.objs.size], _, _, H1, rfl, I1.kept (t' := s1.toks) fun b o e => Heap.get?_push_of_some _ e, turn_tuple a _, ⟨_, Heap.get?_push_size _ rfl, rfl, rfl⟩, fun b hb => ?_, q⟩
    have e : b = s1.heap.objs.size := by simpa using hb
    subst e
    exact I1.fpOk (Nat.le_refl _) (I1.hok.fresh (Nat.le_refl _))
/-- data that is a list (at a) of these items -/
theorem R.lst_at {K : PySem.W.Frag} {Z : Addr → Prop} {H : Hp} {o : Bool} {ds : List D} {v : V} {F : List Addr} (r : R K Z H (.lst o ds) v F) : ∃ a vs G, v = .ref a ∧ SqL K H a vs ∧ Rs K Z H ds vs G ∧ ∀ b ∈ G, b ∈ F := by
  cases r with
  | own h rs => exact ⟨_, _, _, rfl, SqL.of h, rs, fun b hb => List.mem_cons_of_mem _ hb⟩
  | fzn h z rs => exact ⟨_, _, _, rfl, SqL.of h, rs, fun b hb => hb⟩
theorem R.scr_at {K : PySem.W.Frag} {Z : Addr → Prop} {H : Hp} {ds : List D} {v : V} {F : List Addr} (r : R K Z H (.scr ds) v F) : ∃ a vs, v = .ref a ∧ F = [] ∧ SqL K H a vs ∧ Rs K Z H ds vs [] := by
  cases r with
  | knw h rs => exact ⟨_, _, rfl, rfl, h.l, rs⟩
theorem R.scr_keep {K : PySem.W.Frag} {Z Z' : Addr → Prop} {H H' : Hp} {ds : List D} {v : V} {F : List Addr} (r : R K Z H (.scr ds) v F) :
    ∃ a vs, v = .ref a ∧ SqL K H a vs ∧ ds.length = vs.length ∧ ∀ (M Z2 : Addr → Prop) (H2 : Hp), Keep M H H2 → (∀ b ∈ F, ¬ M b) → (∀ b, Z b → ¬ M b) → (∀ b, Z b → Z2 b) → SqL K H2 a vs ∧ Rs K Z2 H2 ds vs [] := by
  cases r with
  | knw h rs => exact ⟨_, _, rfl, h.l, rs.length, fun M Z2 H2 k hf hz hzz => ⟨(k.sqf h).l, rs.keep k hzz hz fun b hb => (by cases hb)⟩⟩
/-- .. and stays so -/
theorem R.lst_keep {K : PySem.W.Frag} {Z Z' : Addr → Prop} {H H' : Hp} {o : Bool} {ds : List D} {v : V} {F : List Addr} (r : R K Z H (.lst o ds) v F) (hn : D.noOwnL ds = true) :
    ∃ a vs, v = .ref a ∧ SqL K H a vs ∧ ds.length = vs.length ∧ ∀ (M Z2 : Addr → Prop) (H2 : Hp), Keep M H H2 → (∀ b ∈ F, ¬ M b) → (∀ b, Z b → ¬ M b) → (∀ b, Z b → Z2 b) → SqL K H2 a vs ∧ Rs K Z2 H2 ds vs [] := by
  cases r with
  | own h rs =>
    have e := rs.no hn
    subst e
    exact ⟨_, _, rfl, SqL.of h, rs.length, fun M Z2 H2 k hf hz hzz => ⟨SqL.of (k.out _ _ h (hf _ List.mem_cons_self)), rs.keep k hzz hz fun b hb => (by cases hb)⟩⟩
  | fzn h z rs => exact ⟨_, _, rfl, SqL.of h, rs.length, fun M Z2 H2 k hf hz hzz => ⟨SqL.of (k.out _ _ h (hz _ z)), rs.keep k hzz hz fun b hb => (by cases hb)⟩⟩
theorem R.tup_keep {K : PySem.W.Frag} {Z Z' : Addr → Prop} {H H' : Hp} {ds : List D} {v : V} {F : List Addr} (r : R K Z H (.tup ds) v F) (hn : D.noOwnL ds = true) :
    ∃ a vs, v = .ref a ∧ SqT K H a vs ∧ ds.length = vs.length ∧ ∀ (M Z2 : Addr → Prop) (H2 : Hp), Keep M H H2 → (∀ b, Z b → ¬ M b) → (∀ b, Z b → Z2 b) → SqT K H2 a vs ∧ Rs K Z2 H2 ds vs [] := by
  obtain ⟨a, vs, e, h, rs⟩ := r.tup_inv
  have e2 := rs.no hn
  subst e2
  exact ⟨_, _, e, h, rs.length, fun M Z2 H2 k hz hzz => ⟨k.sqt h, rs.keep k hzz hz fun b hb => (by cases hb)⟩⟩
theorem Rs.at0 {K : PySem.W.Frag} {Z : Addr → Prop} {H : Hp} {ds : List D} {vs : List V} {i : Nat} {d : D} {x : V} (rs : Rs K Z H ds vs []) (hd : ds[i]? = some d) (hx : vs[i]? = some x) : R K Z H d x [] := by
  obtain ⟨v, G, h1, h2, h3⟩ := rs.get hd
  rw [hx] at h1
  cases h1
  cases G with
  | nil => exact h2
  | cons a r => exact absurd (h3 a List.mem_cons_self) (by simp)
theorem stay_list {K : PySem.W.Frag} {Z : Addr → Prop} {H : Hp} {F : List Addr} {ds : List D} {a : Addr} {vs : List V} (st : ∀ (M Z2 : Addr → Prop) (H2 : Hp), Keep M H H2 → (∀ b ∈ F, ¬ M b) → (∀ b, Z b → ¬ M b) → (∀ b, Z b → Z2 b) → SqL K H2 a vs ∧ Rs K Z2 H2 ds vs []) :
    Stay K Z H F (fun h => SqL K h a vs) (YAt vs) ds := fun M Z2 H2 k hf hz hzz => by
  obtain ⟨q1, q2⟩ := st M Z2 H2 k hf hz hzz
  refine ⟨q1, fun i x h d y hd => ?_⟩
  obtain ⟨rfl, hx⟩ := y
  exact ⟨Keep.refl _ _, q2.at0 hd hx⟩
theorem stay_tup {K : PySem.W.Frag} {Z : Addr → Prop} {H : Hp} {F : List Addr} {ds : List D} {a : Addr} {vs : List V} (st : ∀ (M Z2 : Addr → Prop) (H2 : Hp), Keep M H H2 → (∀ b, Z b → ¬ M b) → (∀ b, Z b → Z2 b) → SqT K H2 a vs ∧ Rs K Z2 H2 ds vs []) :
    Stay K Z H F (fun h => SqT K h a vs) (YAt vs) ds := fun M Z2 H2 k hf hz hzz => by
  obtain ⟨q1, q2⟩ := st M Z2 H2 k hz hzz
  refine ⟨q1, fun i x h d y hd => ?_⟩
  obtain ⟨rfl, hx⟩ := y
  exact ⟨Keep.refl _ _, q2.at0 hd hx⟩
theorem piv_seq (h : PEV X T O x e f) : PIV X T O tg e (iSeq f) := by
  refine PI.imp (pi_sq h) fun σ H Rk h => ?_
  obtain ⟨Z, ρ, Fs, items, ρ', rel, hf, q⟩ := h
  unfold iSeq at hf
  obtain ⟨⟨d, ρ1⟩, h1, hf⟩ := Option.bind_eq_some_iff.mp hf
  obtain ⟨l, h2, hf⟩ := Option.bind_eq_some_iff.mp hf
  cases hf
  refine ⟨Z, ρ, Fs, d, _, rel, h1, fun v H' Z' Fs' F rel' f' w c => ?_⟩
  have w0 := w.r
  cases d <;> simp only [itemsOf] at h2 <;> try (cases h2)
  · split at h2
    · rename_i hn
      cases h2
      obtain ⟨a, vs, e, hq, hl, st⟩ := w.r.tup_keep (Z' := Z') (H' := H') hn
      refine ⟨a, e, .inr ⟨vs, hq, ?_⟩⟩
      have wk := walk_tup (K := X.K) (a := a) (xs := vs)
      rw [← hl] at wk
      exact q _ H' Z' Fs' F _ _ rel' f' wk w.ori (stay_tup st)
    · cases h2
  · split at h2
    · rename_i hn
      cases h2
      obtain ⟨a, vs, e, hq, hl, st⟩ := w.r.lst_keep (Z' := Z') (H' := H') hn
      refine ⟨a, e, .inl ⟨vs, hq, ?_⟩⟩
      have wk := walk_list (K := X.K) (a := a) (xs := vs)
      rw [← hl] at wk
      exact q _ H' Z' Fs' F _ _ rel' f' wk w.ori (stay_list st)
    · cases h2
  · split at h2
    · rename_i hn
      cases h2
      obtain ⟨a, vs, e, hq, hl, st⟩ := w.r.scr_keep (Z' := Z') (H' := H')
      refine ⟨a, e, .inl ⟨vs, hq, ?_⟩⟩
      have wk := walk_list (K := X.K) (a := a) (xs := vs)
      rw [← hl] at wk
      exact q _ H' Z' Fs' F _ _ rel' f' wk w.ori (stay_list st)
    · cases h2

/-! ### ranges -/
def rgItems (lo : Int) (n : Nat) : List D := (List.range n).map fun i => .int (lo + (i : Nat))
def okR (i : Int) : Bool := decide (-1000000000 ≤ i) && decide (i ≤ 1000000000)
def iRg1 (fr : M (List D)) : M (List D) := fun ρ => (fr ρ).bind fun p => match p.1 with
  | [.int j] => if okR j = true then some (rgItems 0 j.toNat, p.2) else none
  | _ => none
def iRg2 (fr : M (List D)) : M (List D) := fun ρ => (fr ρ).bind fun p => match p.1 with
  | [.int i, .int j] => if (okR i && okR j) = true then some (rgItems i (j - i).toNat, p.2) else none
  | _ => none
theorem okR_of {i : Int} (h : okR i = true) : -1000000000 ≤ i ∧ i ≤ 1000000000 := by
  unfold okR at h
  rw [Bool.and_eq_true] at h
  exact ⟨of_decide_eq_true h.1, of_decide_eq_true h.2⟩
theorem stay_range {K : PySem.W.Frag} {Z : Addr → Prop} {H : Hp} {lo : Int} {n : Nat} : Stay K Z H [] (fun _ => True) (YFn fun i => .int (lo + i)) (rgItems lo n) := fun M Z2 H2 k hf hz hzz => by
  refine ⟨trivial, fun i x h d y hd => ?_⟩
  obtain ⟨rfl, rfl⟩ := y
  unfold rgItems at hd
  rw [List.getElem?_map] at hd
  cases e : (List.range n)[i]? with
  | none => rw [e] at hd; cases hd
  | some k =>
    rw [e] at hd
    cases hd
    have : k = i := by
      rw [List.getElem?_range] at e
      · cases e; rfl
      · have := (List.getElem?_eq_some_iff.mp e).1
        simpa using this
    subst this
    exact ⟨Keep.refl _ _, .int _⟩
theorem Rs.ints1 {K : PySem.W.Frag} {Z : Addr → Prop} {H : Hp} {i : Int} {vs : List V} {F : List Addr} (rs : Rs K Z H [.int i] vs F) : vs = [.int i] := by
  obtain ⟨v, ws, F1, F2, rfl, rfl, r, rs⟩ := rs.uncons
  cases rs
  cases r
  rfl
theorem Rs.ints2 {K : PySem.W.Frag} {Z : Addr → Prop} {H : Hp} {i j : Int} {vs : List V} {F : List Addr} (rs : Rs K Z H [.int i, .int j] vs F) : vs = [.int i, .int j] := by
  obtain ⟨v, ws, F1, F2, rfl, rfl, r, rs⟩ := rs.uncons
  have e := rs.ints1
  subst e
  cases r
  rfl
theorem rgItems_length (lo : Int) (n : Nat) : (rgItems lo n).length = n := by unfold rgItems; rw [List.length_map, List.length_range]
theorem piv_range1 {a : Expr} {p : Pos} (hg : Gl X "range") (hm : X.mg "range" = none) (ha : PAV X T O x [a] fr) (hs : starEach [a] X.env = [(false, eval a X.env)] := by rfl) : PIV X T [] tg (.Call (.Name "range" p) [a] [] pos) (iRg1 fr) := by
  refine PI.imp (pi_range1 hg hm ha hs) fun σ H Rk h => ?_
  obtain ⟨Z, ρ, Fs, items, ρ', rel, hf, q⟩ := h
  unfold iRg1 at hf
  obtain ⟨⟨ds, ρ1⟩, h1, hf⟩ := Option.bind_eq_some_iff.mp hf
  split at hf
  · rename_i j e
    split at hf
    · rename_i hok
      cases hf
      obtain ⟨q1, q2⟩ := okR_of hok
      refine ⟨Z, ρ, Fs, ds, _, rel, h1, fun vs H' Z' Fs' F rel' f' w c => ?_⟩
      have e : ds = [.int j] := e
      subst e
      refine ⟨j, w.r.ints1, by omega, by omega, ?_⟩
      have wk := walk_range (lo := 0) (n := j.toNat)
      refine q _ H' Z' Fs' [] _ _ rel' f' ?_ (fun _ _ h => (by cases h)) stay_range
      rw [rgItems_length]
      exact wk
    · cases hf
  · cases hf
theorem piv_range2 {a b : Expr} {p : Pos} (hg : Gl X "range") (hm : X.mg "range" = none) (ha : PAV X T O x [a, b] fr) (hs : starEach [a, b] X.env = [(false, eval a X.env), (false, eval b X.env)] := by rfl) (hs2 : starEach [b] X.env = [(false, eval b X.env)] := by rfl) :
    PIV X T [] tg (.Call (.Name "range" p) [a, b] [] pos) (iRg2 fr) := by
  refine PI.imp (pi_range2 hg hm ha hs hs2) fun σ H Rk h => ?_
  obtain ⟨Z, ρ, Fs, items, ρ', rel, hf, q⟩ := h
  unfold iRg2 at hf
  obtain ⟨⟨ds, ρ1⟩, h1, hf⟩ := Option.bind_eq_some_iff.mp hf
  split at hf
  · rename_i i j e
    split at hf
    · rename_i hok
      cases hf
      rw [Bool.and_eq_true] at hok
      obtain ⟨q1, q2⟩ := okR_of hok.1
      obtain ⟨q3, q4⟩ := okR_of hok.2
      refine ⟨Z, ρ, Fs, ds, _, rel, h1, fun vs H' Z' Fs' F rel' f' w c => ?_⟩
      have e : ds = [.int i, .int j] := e
      subst e
      refine ⟨i, j, w.r.ints2, ⟨by omega, by omega, by omega, by omega⟩, ?_⟩
      have wk := walk_range (lo := i) (n := (j - i).toNat)
      refine q _ H' Z' Fs' [] _ _ rel' f' ?_ (fun _ _ h => (by cases h)) stay_range
      rw [rgItems_length]
      exact wk
    · cases hf
  · cases hf
end
end Vl

namespace Vl
open PySem PySem.Spec PyProof.Rows L2

/-! ### defs -/
abbrev FD := List D → Option (D × List D)
/-- the promise of a def: its first m parameters may be changed; F tells the answer and what these become -/
def spV (K : PySem.W.Frag) (np m : Nat) (F : FD) : Sp := fun vs H Q _ => ∃ Z ds Gs d es, Rel K Z (ds.map some) (vs.map some) H Gs ∧ (∀ i, m ≤ i → Gs i = []) ∧ ds.length = np ∧ m ≤ np ∧ F ds = some (d, es) ∧ es.length = m ∧
  ∀ v H' Z' Gs' F', Rel K Z' ((es ++ ds.drop m).map some) (vs.map some) H' Gs' → Frm (List.range m) Z (ds.map some) Gs H Z' ((es ++ ds.drop m).map some) Gs' H' → Val K Z' H' Gs' [] true d v F' → Cf (List.range m) Gs H true F' → Q v H'
/-- a def's run: np parameters, n slots -/
def outs : Nat → Env → Option (List D)
  | 0, _ => some []
  | m + 1, ρ => (outs m ρ).bind fun l => (Env.at ρ m).bind fun d => some (l ++ [d])
def runF (np m n : Nat) (b : MS) : FD := fun ds => if ds.length = np then (b (ds.map some ++ List.replicate (n - np) none)).bind fun r => match r with
  | .rt d ρ => (outs m ρ).bind fun es => some (d, es)
  | .nx ρ => (outs m ρ).bind fun es => some (.non, es)
  | _ => none
  else none
theorem outs_len : ∀ {m : Nat} {ρ : Env} {es : List D}, outs m ρ = some es → es.length = m
  | 0, _, _, h => by cases h; rfl
  | m + 1, ρ, es, h => by
    unfold outs at h
    obtain ⟨l, h1, h⟩ := Option.bind_eq_some_iff.mp h
    obtain ⟨d, h2, h⟩ := Option.bind_eq_some_iff.mp h
    cases h
    rw [List.length_append, outs_len h1]
    rfl
theorem outs_get : ∀ {m : Nat} {ρ : Env} {es : List D} {i : Nat}, outs m ρ = some es → i < m → ∃ d, es[i]? = some d ∧ Env.at ρ i = some d
  | 0, _, _, _, _, h => absurd h (by omega)
  | m + 1, ρ, es, i, h, hi => by
    unfold outs at h
    obtain ⟨l, h1, h⟩ := Option.bind_eq_some_iff.mp h
    obtain ⟨d, h2, h⟩ := Option.bind_eq_some_iff.mp h
    cases h
    have hl := outs_len h1
    by_cases q : i < m
    · obtain ⟨d', h3, h4⟩ := outs_get h1 q
      exact ⟨d', by rw [List.getElem?_append_left (by omega)]; exact h3, h4⟩
    · have e : i = m := by omega
      subst e
      exact ⟨d, by rw [List.getElem?_append_right (by omega), hl, Nat.sub_self]; rfl, h2⟩
abbrev FnV (P : Program) (w : World) (K : PySem.W.Frag) (mg : Str → Option Value) (base : Heap) (k : Nat) (f : Addr) (fd : FuncData) (ps : List Str) (m : Nat) (F : FD) : Prop := FnOk P w K mg base CX0 k f fd ps (spV K ps.length m F)

section
variable {P : Program} {w : World} {K : PySem.W.Frag} {mg : Str → Option Value} {base : Heap} {W T : List Nat} {b : MS}
theorem spV_len {np m : Nat} {F : FD} {vs : List V} {H : Hp} {Q : VK} {E : XK} (h : spV K np m F vs H Q E) : vs.length = np := by
  obtain ⟨Z, ds, Gs, d, es, rel, _, hl, _⟩ := h
  have e := rel.len
  rw [List.length_map, List.length_map] at e
  omega
/-- THE RULE for a def: its body -/
theorem fnv {y qual : Str} {st : Stmt} {f : Addr} {fd : FuncData} {N ps : List Str} {k m : Nat} (F : Fun K y qual st f fd) (S : FnScope N ps (defScope st)) (hm : m ≤ ps.length) (hW : ∀ i, i < m → i ∉ W)
    (hbody : ∀ (cdv : Value) (A : Around) (outer : List PySem.Env) (s : Shared) (H : Hp) (E : XK), Room k (A.deeper (envOfC qual (defScope st) s.heap.objs.size f cdv)) → PSsV (cxOf CX0 P w K mg base N qual (defScope st) f cdv A outer s H E).nox W T (defBody st) b) :
    FnV P w K mg base (k + 1) f fd ps m (runF ps.length m N.length b) := by
  refine F.ok S (fun vs H Q E h => spV_len h) fun cdv A outer s H vs Q E hr h => ⟨_, hbody cdv A outer s H E hr, ?_⟩
  have hvl := spV_len h
  obtain ⟨Z, ds, Gs, d, es, rel, hg, hl, hm', hf, he, q⟩ := h
  unfold runF at hf
  rw [if_pos hl] at hf
  obtain ⟨r, hb, hf⟩ := Option.bind_eq_some_iff.mp hf
  have hpl : ps.length ≤ N.length := by have := congrArg List.length S.pre; rw [List.length_take] at this; omega
  have relS : Rel K Z (ds.map some ++ List.replicate (N.length - ps.length) none) (L2.start N vs) H Gs := by
    refine ⟨fun i d e => ?_, rel.nd, rel.dj, rel.nz, rel.zt, rel.ft, ?_⟩
    · by_cases hi : i < ds.length
      · rw [List.getElem?_append_left (by rw [List.length_map]; exact hi)] at e
        obtain ⟨v, h1, h2⟩ := rel.at_ i d e
        refine ⟨v, ?_, h2⟩
        unfold L2.start
        rw [List.getElem?_append_left (by rw [List.length_map]; omega)]
        exact h1
      · rw [List.getElem?_append_right (by rw [List.length_map]; omega), List.getElem?_replicate] at e
        split at e <;> cases e
    · unfold L2.start
      rw [List.length_append, List.length_append, List.length_map, List.length_map, List.length_replicate, List.length_replicate]
      omega
  have fin : ∀ {d0 : D} {ρ' : Env} {σ' : L2.St} {v : V} {H' : Hp} {Z' : Addr → Prop} {Fs' : Ft} {F' : List Addr}, Fin K W T Z (ds.map some ++ List.replicate (N.length - ps.length) none) Gs (L2.start N vs) H Z' ρ' Fs' σ' H' → Val K Z' H' Fs' [] true d0 v F' → Cf T Gs H true F' →
      ((outs m ρ').bind fun es => some (d0, es)) = some (d, es) → Q v H' := fun {d0 ρ' σ' v H' Z' Fs' F'} fn wv cf ho => by
    obtain ⟨es', h1, ho⟩ := Option.bind_eq_some_iff.mp ho
    cases ho
    have own : ∀ {a}, (∃ j ∈ T, a ∈ Gs j) → ∃ j ∈ List.range m, a ∈ Gs j := fun {a} ⟨j, hj, ha⟩ => by
      refine ⟨j, List.mem_range.mpr ?_, ha⟩
      refine Nat.lt_of_not_le fun hle => ?_
      rw [hg j hle] at ha
      cases ha
    have hG' : ∀ i, i < m → Fs' i = (fun j => if j < m then Fs' j else []) i := fun i hi => by simp [hi]
    refine q v H' Z' (fun j => if j < m then Fs' j else []) F' ⟨fun i d e => ?_, fun i => ?_, fun i j a h1 h2 => ?_, fun i a h => ?_, fn.rel.zt, fun i a h => ?_, ?_⟩ ⟨fun j hj => ?_, fn.frm.keep.mono fun a h => own h, fun j hj a ha => ?_, fun a h => ?_, fn.frm.zz, ?_⟩
      ⟨wv.r, fun j a h1 h2 => ?_, wv.exc⟩ fun h a ha => (cf h a ha).imp own id
    · by_cases hi : i < m
      · obtain ⟨d', h3, h4⟩ := outs_get h1 hi
        have e' : d' = d := by
          rw [List.getElem?_map, List.getElem?_append_left (by omega), h3] at e
          cases e; rfl
        subst e'
        obtain ⟨v', h5, h6⟩ := fn.rel.at_ i d' (Env.at_some h4)
        refine ⟨v', ?_, by simp only [if_pos hi]; exact h6⟩
        rw [fn.sg i (hW i hi)] at h5
        unfold L2.start at h5
        rw [List.getElem?_append_left (by rw [List.length_map]; omega)] at h5
        exact h5
      · have e2 : (ds.map some)[i]? = some (some d) := by
          rw [List.getElem?_map, List.getElem?_append_right (by omega), List.getElem?_drop, show m + (i - es.length) = i by omega, ← List.getElem?_map] at e
          exact e
        obtain ⟨v', h5, h6⟩ := rel.at_ i d e2
        refine ⟨v', h5, ?_⟩
        rw [hg i (by omega)] at h6
        simp only [if_neg hi]
        exact h6.keep fn.frm.keep fn.frm.zz (fun a z ⟨j, hj, ha⟩ => rel.nz j a ha z) fun a h => (by cases h)
    · by_cases hi : i < m
      · simp only [if_pos hi]; exact fn.rel.nd i
      · simp only [if_neg hi]; exact List.nodup_nil
    · by_cases hi : i < m
      · by_cases hj : j < m
        · simp only [if_pos hi] at h1
          simp only [if_pos hj] at h2
          exact fn.rel.dj i j a h1 h2
        · simp [hj] at h2
      · simp [hi] at h1
    · by_cases hi : i < m
      · simp only [if_pos hi] at h; exact fn.rel.nz i a h
      · simp [hi] at h
    · by_cases hi : i < m
      · simp only [if_pos hi] at h; exact fn.rel.ft i a h
      · simp [hi] at h
    · rw [List.length_map, List.length_append, List.length_drop, List.length_map]
      omega
    · have hj' : ¬ j < m := fun h => hj (List.mem_range.mpr h)
      refine ⟨by simp only [if_neg hj']; exact (hg j (by omega)).symm, ?_⟩
      rw [List.getElem?_map, List.getElem?_append_right (by omega), List.getElem?_drop, show m + (j - es.length) = j by omega, ← List.getElem?_map]
    · have hj' : j < m := List.mem_range.mp hj
      simp only [if_pos hj'] at ha
      by_cases hT : j ∈ T
      · exact (fn.frm.c1 j hT a ha).imp own id
      · rw [(fn.frm.sub j hT).1] at ha
        exact .inl ⟨j, hj, ha⟩
    · rcases fn.frm.c3 a h with z | z | z
      · exact .inl z
      · exact .inr (.inl (own z))
      · exact .inr (.inr z)
    · rw [List.length_map, List.length_append, List.length_drop, List.length_map]
      omega
    · by_cases hj : j < m
      · simp only [if_pos hj] at h2
        exact wv.ori j a h1 h2
      · simp [hj] at h2
  refine ⟨Z, _, Gs, r, relS, hb, fun ρ' e σ' H' Z' Fs' fn => ?_, fun ρ' e σ' H' Z' Fs' fn => ?_, fun ρ' e σ' H' Z' Fs' fn => ?_, fun d0 ρ' e σ' v H' Z' Fs' F' fn wv cf => ?_⟩
  · subst e
    exact fin fn ⟨.non, fun _ _ h => (by cases h), fun _ => ⟨List.nodup_nil, fun _ h => (by cases h)⟩⟩ Cf.nil hf
  · subst e
    cases hf
  · subst e
    cases hf
  · subst e
    exact fin fn wv cf hf
theorem FnV.imp {k : Nat} {f : Addr} {fd : FuncData} {ps : List Str} {m : Nat} {F G : FD} (h : FnV P w K mg base k f fd ps m F) (i : ∀ ds r, G ds = some r → F ds = some r) : FnV P w K mg base k f fd ps m G :=
  FnOk.imp h fun vs H Q E ⟨Z, ds, Gs, d, es, rel, hg, hl, hm, hf, q⟩ => ⟨Z, ds, Gs, d, es, rel, hg, hl, hm, i _ _ hf, q⟩
end

/-! ### calls -/
/-- a call of a def that changes none of its arguments -/
def fCall (F : FD) (fr : M (List D)) : M D := fun ρ => (fr ρ).bind fun p => (F (D.frzL p.1)).bind fun r => if (r.1.noFz || D.noOwnL p.1) = true then some (r.1, p.2) else none
/-- .. that changes its first one, the slot i -/
def fCallM (F : FD) (i : Nat) (fr : M (List D)) : M D := fun ρ => (Env.at ρ i).bind fun _ => (fr ρ).bind fun p => (Env.at p.2 i).bind fun o => if D.noOwnL p.1 = true then (F (o :: p.1)).bind fun r => match r.2 with
    | [o'] => some (r.1, p.2.set i (some o'))
    | _ => none
  else none
section
variable {X : Cx} {T T1 O W : List Nat} {x : Bool} {e : Expr} {es : List Expr} {fr : M (List D)} {pos : Pos}
theorem frzL_length : ∀ l : List D, (D.frzL l).length = l.length
  | [] => rfl
  | _ :: r => congrArg (· + 1) (frzL_length r)
theorem rel_args {K : PySem.W.Frag} {Z' : Addr → Prop} {H : Hp} {ds : List D} {vs : List V} (r : Rs K Z' H ds vs []) (zt : ∀ a, Z' a → H a ≠ none) : Rel K Z' (ds.map some) (vs.map some) H (fun _ => []) := by
  refine ⟨fun i d e => ?_, fun _ => List.nodup_nil, fun _ _ _ h => (by cases h), fun _ _ h => (by cases h), zt, fun _ _ h => (by cases h), by rw [List.length_map, List.length_map, r.length]⟩
  rw [List.getElem?_map] at e
  cases q : ds[i]? with
  | none => rw [q] at e; cases e
  | some d' =>
    rw [q] at e
    cases e
    obtain ⟨v, G, h1, h2, h3⟩ := r.get q
    refine ⟨v, by rw [List.getElem?_map, h1]; rfl, ?_⟩
    cases G with
    | nil => exact h2
    | cons a r => exact absurd (h3 a List.mem_cons_self) (by simp)
theorem tv_call {F : FD} {np : Nat} {sp : Sp} (hsp : sp = spV X.K np 0 F) (hnp : ∀ ds r, F ds = some r → ds.length = np ∧ r.2.length = 0) {σ : L2.St} {H : Hp} {Q : VK} {E : XK} (h : tV X.K T [] true (fCall F fr) σ H Q) : tCall sp [] E (tVL X.K T O x fr) σ H Q := by
  subst hsp
  obtain ⟨Z, ρ, Fs, d, ρ', rel, hf, q⟩ := h
  unfold fCall at hf
  obtain ⟨⟨ds, ρ1⟩, h1, hf⟩ := Option.bind_eq_some_iff.mp hf
  obtain ⟨⟨d', es'⟩, h2, hf⟩ := Option.bind_eq_some_iff.mp hf
  split at hf
  · rename_i hok
    cases hf
    refine ⟨Z, ρ, Fs, ds, _, rel, h1, fun vs H1 Z1 Fs1 F1 rel1 f1 w1 c1 => ?_⟩
    show spV X.K np 0 F (vs ++ []) H1 Q E
    rw [List.append_nil]
    have zt : ∀ a, (Z1 a ∨ a ∈ F1) → H1 a ≠ none := fun a h => h.elim (rel1.zt a) (w1.r.tr a)
    have r2 : Rs X.K (fun a => Z1 a ∨ a ∈ F1) H1 (D.frzL ds) vs [] := w1.r.freeze (fun _ h => .inl h) fun a h => .inr h
    obtain ⟨hl1, hl2⟩ := hnp _ _ h2
    refine ⟨fun a => Z1 a ∨ a ∈ F1, D.frzL ds, fun _ => [], d', es', rel_args r2 zt, fun _ _ => rfl, hl1, Nat.zero_le _, h2, hl2, fun v H' Z' Gs' F' rel2 f2 w2 c2 => ?_⟩
    have k0 : Keep M0 H1 H' := f2.keep.mono fun a ⟨j, hj, _⟩ => (by simp at hj)
    have nw : ∀ a ∈ F', H1 a = none := fun a ha => (c2 rfl a ha).elim (fun ⟨j, hj, _⟩ => (by simp at hj)) id
    have f3 := f1.trans (Frm.pureT [] k0)
    rw [List.append_nil] at f3
    rw [Bool.or_eq_true] at hok
    rcases hok with hn | hn
    · exact q v H' Z1 Fs1 F' (rel1.keep0 k0) f3 (Val.new rel1 (w2.r.any hn) (w2.exc rfl).1 nw) (Cf.new f1.keep nw)
    · have e := w1.r.no hn
      subst e
      -- the known set may have grown by new things
      have zz : ∀ a, Z' a → Z1 a ∨ H1 a = none := fun a h => by
        rcases f2.c3 a h with (z | z) | ⟨j, hj, _⟩ | z
        · exact .inl z
        · cases z
        · simp at hj
        · exact .inr z
      have up : ∀ a, Z1 a → Z' a := fun a z => f2.zz a (.inl z)
      have rel3 : Rel X.K Z' ρ1 σ H' Fs1 := ⟨fun i d e => let ⟨v, h1, h2⟩ := rel1.at_ i d e; ⟨v, h1, h2.keep k0 up (fun _ _ h => h) fun _ _ h => h⟩, rel1.nd, rel1.dj,
        fun i a h z => (zz a z).elim (rel1.nz i a h) (rel1.ft i a h), rel2.zt, fun i a h => k0.dom a (rel1.ft i a h), rel1.len⟩
      have f4 : Frm T Z ρ Fs H Z' ρ1 Fs1 H' := ⟨f3.sub, f3.keep, f3.c1, fun a h => (zz a h).elim (f3.c3 a) fun z => .inr (.inr (f1.keep.back z)), fun a h => up a (f1.zz a h), f3.len⟩
      exact q v H' Z' Fs1 F' rel3 f4 ⟨w2.r, fun j a h1 h2 => absurd (nw a h1) (rel1.ft j a h2), w2.exc⟩ (Cf.new f1.keep nw)
  · cases hf
theorem pev_call {k : Nat} {f : Addr} {fd : FuncData} {ps : List Str} {y : Str} {p : Pos} {F : FD} (G : FnV X.prog X.w X.K X.mg X.base k f fd ps 0 F) (hnp : ∀ ds r, F ds = some r → ds.length = ps.length ∧ r.2.length = 0) (hr : Room k X.A) (hg : Gl X y) (hm : X.mg y = some (.ref f)) (hk : PySem.W.keepIn X.K (.ref f) = true)
    (hb : Binds X.K fd ps []) (ha : PAV X T O x (e :: es) fr) (hdb : (y == ("__debug__" : Str)) = false := by decide) (he : starEach (e :: es) X.env = (false, eval e X.env) :: starEach es X.env := by rfl) (hpl : (backTo pos (starEach es X.env)).any (·.1) = false := by rfl) :
    PEV X T [] true (.Call (.Name y p) (e :: es) [] pos) (fCall F fr) :=
  PE.imp (pe_call G hr hg hm hk hb .nil pass0 ha hdb he hpl) fun _ _ _ h => tv_call rfl hnp h
theorem pev_callM (i : Nat) {k : Nat} {f : Addr} {fd : FuncData} {ps : List Str} {y z : Str} {p pz : Pos} {F : FD} (G : FnV X.prog X.w X.K X.mg X.base k f fd ps 1 F) (hnp : ∀ ds r, F ds = some r → ds.length = ps.length ∧ r.2.length = 1) (hp1 : 1 ≤ ps.length) (hr : Room k X.A) (hg : Gl X y) (hm : X.mg y = some (.ref f)) (hk : PySem.W.keepIn X.K (.ref f) = true)
    (hb : Binds X.K fd ps []) (ha : PAV X T O x es fr) (hN : X.N[i]? = some z := by rfl) (hv : Vis X.env.scope z := by first | exact Or.inl rfl | exact Or.inr (Or.inl rfl) | exact Or.inr (Or.inr rfl)) (hd : (z == ("__debug__" : Str)) = false := by decide) (hcd : (z == ("__classdict__" : Str)) = false := by decide)
    (hdb : (y == ("__debug__" : Str)) = false := by decide) (he : starEach (.Name z pz :: es) X.env = (false, eval (.Name z pz) X.env) :: starEach es X.env := by rfl) (hpl : (backTo pos (starEach es X.env)).any (·.1) = false := by rfl) :
    PEV X (T ++ [i]) [] true (.Call (.Name y p) (.Name z pz :: es) [] pos) (fCallM F i fr) := by
  refine PE.imp (pe_call G hr hg hm hk hb .nil pass0 (pa_cons (pe_var hN hv hd hcd) ha he) hdb he hpl) fun σ H Q h => ?_
  obtain ⟨Z, ρ, Fs, d, ρ', rel, hf, q⟩ := h
  unfold fCallM at hf
  obtain ⟨o0, h00, hf⟩ := Option.bind_eq_some_iff.mp hf
  obtain ⟨⟨ds, ρ1⟩, h1, hf⟩ := Option.bind_eq_some_iff.mp hf
  obtain ⟨o, h0, hf⟩ := Option.bind_eq_some_iff.mp hf
  split at hf
  · rename_i hn
    obtain ⟨⟨d', es'⟩, h2, hf⟩ := Option.bind_eq_some_iff.mp hf
    split at hf
    · rename_i o' he'
      cases hf
      have he' : es' = [o'] := he'
      subst he'
      obtain ⟨v0, hv0, _⟩ := rel.at_ i o0 (Env.at_some h00)
      refine ⟨v0, hv0, Z, ρ, Fs, ds, ρ1, rel, h1, fun vs H1 Z1 Fs1 F1 rel1 f1 w1 c1 => ?_⟩
      show spV X.K ps.length 1 F ((v0 :: vs) ++ []) H1 Q E0
      rw [List.append_nil]
      have hio := Env.at_some h0
      obtain ⟨v1, hv1, r0⟩ := rel1.at_ i o hio
      rw [hv0] at hv1
      cases hv1
      have e := w1.r.no hn
      subst e
      obtain ⟨hl1, hl2⟩ := hnp _ _ h2
      have ra := rel_args w1.r rel1.zt
      have relA : Rel X.K Z1 ((o :: ds).map some) ((v0 :: vs).map some) H1 (fun j => if j = 0 then Fs1 i else []) := by
        refine ⟨fun j d e => ?_, fun j => ?_, fun j k a h1 h2 => ?_, fun j a h => ?_, rel1.zt, fun j a h => ?_, by rw [List.length_map, List.length_map]; show ds.length + 1 = vs.length + 1; rw [w1.r.length]⟩
        · cases j with
          | zero => cases e; exact ⟨v0, rfl, r0⟩
          | succ j => exact ra.at_ j d e
        · by_cases q : j = 0
          · simp only [if_pos q]; exact rel1.nd i
          · simp only [if_neg q]; exact List.nodup_nil
        · by_cases q : j = 0
          · by_cases p : k = 0
            · rw [q, p]
            · simp [p] at h2
          · simp [q] at h1
        · by_cases q : j = 0
          · simp only [if_pos q] at h; exact rel1.nz i a h
          · simp [q] at h
        · by_cases q : j = 0
          · simp only [if_pos q] at h; exact rel1.ft i a h
          · simp [q] at h
      refine ⟨Z1, o :: ds, _, d', [o'], relA, fun j hj => if_neg (by omega), hl1, hp1, h2, rfl, fun v H' Z' Gs' F' rel2 f2 w2 c2 => ?_⟩
      have own0 : ∀ {a}, (∃ j ∈ List.range 1, a ∈ (if j = 0 then Fs1 i else [])) → a ∈ Fs1 i := fun {a} ⟨j, hj, ha⟩ => by
        have e : j = 0 := by have := List.mem_range.mp hj; omega
        subst e
        exact ha
      have k1 : Keep (fun a => a ∈ Fs1 i) H1 H' := f2.keep.mono fun a h => own0 h
      have g0 : ∀ a ∈ Gs' 0, a ∈ Fs1 i ∨ H1 a = none := fun a ha => (f2.c1 0 (by simp) a ha).imp own0 id
      have fF : ∀ a ∈ F', a ∈ Fs1 i ∨ H1 a = none := fun a ha => (c2 rfl a ha).imp own0 id
      have zF : ∀ a, Z' a → Z1 a ∨ a ∈ Fs1 i ∨ H1 a = none := fun a h => (f2.c3 a h).imp id fun h => h.imp own0 id
      obtain ⟨v2, hv2, r2⟩ := rel2.at_ 0 o' rfl
      cases hv2
      have hil := Env.lt hio
      have rel3 : Rel X.K Z' (ρ1.set i (some o')) σ H' (fun j => if j = i then Gs' 0 else Fs1 j) := by
        refine ⟨fun j d e => ?_, fun j => ?_, fun j k a h1 h2 => ?_, fun j a h z => ?_, rel2.zt, fun j a h => ?_, by rw [List.length_set]; exact rel1.len⟩
        · by_cases q : j = i
          · subst q
            rw [List.getElem?_set_self hil] at e
            cases e
            simp only [if_pos rfl]
            exact ⟨v0, hv0, r2⟩
          · rw [List.getElem?_set_ne (Ne.symm q)] at e
            simp only [if_neg q]
            obtain ⟨v', h1, h2⟩ := rel1.at_ j d e
            exact ⟨v', h1, h2.keep k1 f2.zz (fun a z h => rel1.nz i a h z) fun a ha h => q (rel1.dj j i a ha h)⟩
        · by_cases q : j = i
          · simp only [if_pos q]; exact rel2.nd 0
          · simp only [if_neg q]; exact rel1.nd j
        · by_cases q : j = i
          · by_cases p : k = i
            · rw [q, p]
            · simp only [if_pos q] at h1
              simp only [if_neg p] at h2
              rcases g0 a h1 with z | z
              · exact absurd (rel1.dj k i a h2 z) p
              · exact absurd z (rel1.ft k a h2)
          · by_cases p : k = i
            · simp only [if_neg q] at h1
              simp only [if_pos p] at h2
              rcases g0 a h2 with z | z
              · exact absurd (rel1.dj j i a h1 z) q
              · exact absurd z (rel1.ft j a h1)
            · simp only [if_neg q] at h1
              simp only [if_neg p] at h2
              exact rel1.dj j k a h1 h2
        · by_cases q : j = i
          · simp only [if_pos q] at h; exact rel2.nz 0 a h z
          · simp only [if_neg q] at h
            rcases zF a z with z | z | z
            · exact rel1.nz j a h z
            · exact q (rel1.dj j i a h z)
            · exact rel1.ft j a h z
        · by_cases q : j = i
          · simp only [if_pos q] at h; exact rel2.ft 0 a h
          · simp only [if_neg q] at h; exact k1.dom a (rel1.ft j a h)
      have f3 : Frm [i] Z1 ρ1 Fs1 H1 Z' (ρ1.set i (some o')) (fun j => if j = i then Gs' 0 else Fs1 j) H' := by
        refine ⟨fun j hj => ?_, k1.mono fun a h => ⟨i, List.mem_cons_self, h⟩, fun j hj a ha => ?_, fun a h => (zF a h).imp id fun h => h.imp (fun h => ⟨i, List.mem_cons_self, h⟩) id, f2.zz, by rw [List.length_set]⟩
        · have q : j ≠ i := fun e => hj (by rw [e]; exact List.mem_cons_self)
          exact ⟨if_neg q, List.getElem?_set_ne (Ne.symm q)⟩
        · have q : j = i := by simpa using hj
          simp only [if_pos q] at ha
          exact (g0 a ha).imp (fun h => ⟨i, List.mem_cons_self, h⟩) id
      refine q v H' Z' _ F' rel3 (f1.trans f3) ⟨w2.r, fun j a h1 h2 => ?_, w2.exc⟩ (Cf.late f1 fun _ a ha => (fF a ha).imp (fun h => ⟨i, List.mem_cons_self, h⟩) id)
      by_cases q : j = i
      · simp only [if_pos q] at h2
        exact absurd (w2.ori 0 a h1 h2) (by simp)
      · simp only [if_neg q] at h2
        rcases fF a h1 with z | z
        · exact absurd (rel1.dj j i a h2 z) q
        · exact absurd z (rel1.ft j a h2)
    · cases hf
  · cases hf
end
end Vl

namespace Vl
open PySem PySem.Spec PyProof.Rows L2

/-! ### list comprehensions -/
def wipeE (ρ : Env) : List Nat → Env
  | [] => ρ
  | v :: vs => (wipeE ρ vs).set v none
/-- the slots vs as they were in ρ0 -/
def backE (ρ0 ρ : Env) : List Nat → Env
  | [] => ρ
  | v :: vs => (backE ρ0 ρ vs).set v ((ρ0[v]?).getD none)
def ownOk (ρ : Env) (vs : List Nat) : Bool := vs.all fun i => match Env.at ρ i with
  | some d => d.noOwn
  | none => true
def compL (vs : List Nat) (g : D → Env → Option Env) (ft : M Bool) (fe : M D) : List D → Env → List D → Option (List D × Env)
  | [], ρ, acc => some (acc, ρ)
  | d :: ds, ρ, acc => (g d (wipeE ρ vs)).bind fun ρ1 => (ft ρ1).bind fun p => if p.1 = true then (fe p.2).bind fun q => if szOk acc.length = true then compL vs g ft fe ds q.2 (acc ++ [q.1]) else none
    else compL vs g ft fe ds p.2 acc
def fComp (vs : List Nat) (fi : M (List D)) (g : D → Env → Option Env) (ft : M Bool) (fe : M D) : M D := fun ρ => (fi ρ).bind fun p => if ownOk p.2 vs = true then (compL vs g ft fe p.1 p.2 []).bind fun q => some (.lst true q.1, backE p.2 q.2 vs) else none
def fYes : M Bool := fun ρ => some (true, ρ)

theorem wipeE_length (ρ : Env) : ∀ vs : List Nat, (wipeE ρ vs).length = ρ.length
  | [] => rfl
  | v :: vs => by unfold wipeE; rw [List.length_set, wipeE_length ρ vs]
theorem wipeE_out {ρ : Env} {i : Nat} : ∀ {vs : List Nat}, i ∉ vs → (wipeE ρ vs)[i]? = ρ[i]?
  | [], _ => rfl
  | v :: vs, h => by
    unfold wipeE
    rw [List.getElem?_set_ne fun e => h (by rw [← e]; exact List.mem_cons_self)]
    exact wipeE_out fun z => h (List.mem_cons_of_mem _ z)
theorem wipeE_in {ρ : Env} {i : Nat} : ∀ {vs : List Nat}, i ∈ vs → ∀ d, (wipeE ρ vs)[i]? ≠ some (some d)
  | v :: vs, h, d => by
    unfold wipeE
    by_cases q : v = i
    · subst q
      by_cases hl : v < (wipeE ρ vs).length
      · rw [List.getElem?_set_self hl]; intro z; cases z
      · rw [List.getElem?_eq_none (by simpa using hl)]; intro z; cases z
    · rw [List.getElem?_set_ne q]
      exact wipeE_in ((List.mem_cons.mp h).elim (fun e => absurd e.symm q) id) d
theorem backE_length (ρ0 ρ : Env) : ∀ vs : List Nat, (backE ρ0 ρ vs).length = ρ.length
  | [] => rfl
  | v :: vs => by unfold backE; rw [List.length_set, backE_length ρ0 ρ vs]
theorem backE_out {ρ0 ρ : Env} {i : Nat} : ∀ {vs : List Nat}, i ∉ vs → (backE ρ0 ρ vs)[i]? = ρ[i]?
  | [], _ => rfl
  | v :: vs, h => by
    unfold backE
    rw [List.getElem?_set_ne fun e => h (by rw [← e]; exact List.mem_cons_self)]
    exact backE_out fun z => h (List.mem_cons_of_mem _ z)
theorem backE_in {ρ0 ρ : Env} (hl : ρ.length = ρ0.length) {i : Nat} : ∀ {vs : List Nat}, i ∈ vs → (backE ρ0 ρ vs)[i]? = ρ0[i]?
  | v :: vs, h => by
    unfold backE
    by_cases q : v = i
    · subst q
      by_cases hv : v < ρ0.length
      · rw [List.getElem?_set_self (by rw [backE_length]; omega), List.getElem?_eq_getElem hv]
        rfl
      · rw [List.getElem?_eq_none (by rw [List.length_set, backE_length]; omega), List.getElem?_eq_none (by omega)]
    · rw [List.getElem?_set_ne q]
      exact backE_in hl ((List.mem_cons.mp h).elim (fun e => absurd e.symm q) id)
theorem wipe_out' {σ : L2.St} {i : Nat} {vs : List Nat} (h : i ∉ vs) : (wipe σ vs)[i]? = σ[i]? := by
  induction vs with
  | nil => rfl
  | cons v vs ih =>
    show ((wipe σ vs).set v none)[i]? = _
    rw [List.getElem?_set_ne fun e => h (by rw [← e]; exact List.mem_cons_self)]
    exact ih fun z => h (List.mem_cons_of_mem _ z)
theorem wipe_in {σ : L2.St} {i : Nat} {vs : List Nat} (h : i ∈ vs) : (wipe σ vs)[i]? = if i < σ.length then some none else none := by
  induction vs with
  | nil => cases h
  | cons v vs ih =>
    show ((wipe σ vs).set v none)[i]? = _
    by_cases q : v = i
    · subst q
      by_cases hl : v < σ.length
      · rw [if_pos hl, List.getElem?_set_self (by rw [wipe_length]; exact hl)]
      · rw [if_neg hl, List.getElem?_eq_none (by rw [List.length_set, wipe_length]; omega)]
    · rw [List.getElem?_set_ne q]
      exact ih ((List.mem_cons.mp h).elim (fun e => absurd e.symm q) id)
theorem wipe_eq {σ τ : L2.St} {vs : List Nat} (hl : τ.length = σ.length) (h : ∀ i, i ∉ vs → τ[i]? = σ[i]?) : wipe τ vs = wipe σ vs := by
  refine List.ext_getElem? fun i => ?_
  by_cases q : i ∈ vs
  · rw [wipe_in q, wipe_in q, hl]
  · rw [wipe_out' q, wipe_out' q, h i q]

section
variable {K : PySem.W.Frag} {Z Z' Z1 Z2 : Addr → Prop} {ρ ρ' ρ1 ρ2 : Env} {Fs Fs' Fs1 Fs2 : Ft} {H H' H1 H2 : Hp} {T T1 T2 O O1 O2 W W1 W2 : List Nat} {x : Bool} {d : D} {v : V} {F : List Addr} {σ σ' τ : L2.St}
def dropF (Fs : Ft) (vs : List Nat) : Ft := fun j => if j ∈ vs then [] else Fs j
theorem Rel.wipe (rel : Rel K Z ρ σ H Fs) (vs : List Nat) (hl : τ.length = σ.length) (h : ∀ i, i ∉ vs → τ[i]? = σ[i]?) : Rel K Z (wipeE ρ vs) τ H (dropF Fs vs) := by
  refine ⟨fun j e he => ?_, fun j => ?_, fun j k a h1 h2 => ?_, fun j a h => ?_, rel.zt, fun j a h => ?_, by rw [wipeE_length, hl]; exact rel.len⟩
  · by_cases q : j ∈ vs
    · exact absurd he (wipeE_in q e)
    · rw [wipeE_out q] at he
      rw [h j q]
      simp only [dropF, if_neg q]
      exact rel.at_ j e he
  · by_cases q : j ∈ vs
    · simp only [dropF, if_pos q]; exact List.nodup_nil
    · simp only [dropF, if_neg q]; exact rel.nd j
  · by_cases q : j ∈ vs
    · simp [dropF, q] at h1
    · by_cases p : k ∈ vs
      · simp [dropF, p] at h2
      · simp only [dropF, if_neg q] at h1
        simp only [dropF, if_neg p] at h2
        exact rel.dj j k a h1 h2
  · by_cases q : j ∈ vs
    · simp [dropF, q] at h
    · simp only [dropF, if_neg q] at h; exact rel.nz j a h
  · by_cases q : j ∈ vs
    · simp [dropF, q] at h
    · simp only [dropF, if_neg q] at h; exact rel.ft j a h
theorem Frm.wipe (vs : List Nat) : Frm vs Z ρ Fs H Z (wipeE ρ vs) (dropF Fs vs) H := by
  refine ⟨fun j hj => ⟨by simp [dropF, hj], wipeE_out hj⟩, Keep.refl _ _, fun j hj a ha => ?_, fun a h => .inl h, fun a h => h, wipeE_length _ _⟩
  simp [dropF, hj] at ha
theorem Val.wipe {vs : List Nat} (w : Val K Z H Fs O x d v F) : Val K Z H (dropF Fs vs) O x d v F := by
  refine ⟨w.r, fun j a h1 h2 => ?_, w.exc⟩
  by_cases q : j ∈ vs
  · simp [dropF, q] at h2
  · simp only [dropF, if_neg q] at h2; exact w.ori j a h1 h2
/-- a list that no slot holds grows -/
theorem Frm.wr {D : Addr} {o u : HO} (f : Frm T Z ρ Fs H Z' ρ' Fs' H') (hn : H D = none) (hD : H' D = some u) (hu : Mut (some u)) : Frm T Z ρ Fs H Z' ρ' Fs' (upd H' D o) :=
  ⟨f.sub, f.keep.trans (Keep.wr hD hu) (fun _ h => h) fun a h => .inr (by rw [h]; exact hn), f.c1, f.c3, f.zz, f.len⟩
theorem Rel.wr {D : Addr} {o u : HO} (rel : Rel K Z ρ σ H Fs) (hD : H D = some u) (hu : Mut (some u)) (hf : ∀ j, D ∉ Fs j) (hz : ¬ Z D) : Rel K Z ρ σ (upd H D o) Fs := by
  have k : Keep (fun a => a = D) H (upd H D o) := Keep.wr hD hu
  exact ⟨fun i d e => let ⟨v, h1, h2⟩ := rel.at_ i d e; ⟨v, h1, h2.keep k (fun _ h => h) (fun a z e => hz (by rw [← e]; exact z)) fun a ha e => hf i (by rw [← e]; exact ha)⟩, rel.nd, rel.dj, rel.nz,
    fun a h => k.dom a (rel.zt a h), fun i a h => k.dom a (rel.ft i a h), rel.len⟩
/-- a block's own slots are put back -/
theorem Rel.back {vs : List Nat} {ρ0 : Env} {Fs0 : Ft} {Z0 : Addr → Prop} {H0 : Hp} (rel0 : Rel K Z0 ρ0 σ H0 Fs0) (ok : ownOk ρ0 vs = true) (rel : Rel K Z ρ (L2.wipe σ vs) H Fs) (f : Frm T Z0 ρ0 Fs0 H0 Z ρ Fs H) : Rel K Z (backE ρ0 ρ vs) σ H (dropF Fs vs) := by
  refine ⟨fun j e he => ?_, fun j => ?_, fun j k a h1 h2 => ?_, fun j a h => ?_, rel.zt, fun j a h => ?_, by rw [backE_length, f.len]; exact rel0.len⟩
  · by_cases q : j ∈ vs
    · rw [backE_in f.len q] at he
      obtain ⟨v, h1, h2⟩ := rel0.at_ j e he
      have hn : e.noOwn = true := by
        have z := List.all_eq_true.mp ok j q
        unfold Env.at at z
        rw [he] at z
        exact z
      have e0 := h2.no hn
      rw [e0] at h2
      refine ⟨v, h1, ?_⟩
      simp only [dropF, if_pos q]
      exact h2.keep f.keep f.zz (fun a z ⟨k, hk, ha⟩ => rel0.nz k a ha z) fun a h => (by cases h)
    · rw [backE_out q] at he
      obtain ⟨v, h1, h2⟩ := rel.at_ j e he
      rw [wipe_out' q] at h1
      refine ⟨v, h1, ?_⟩
      simp only [dropF, if_neg q]
      exact h2
  · by_cases q : j ∈ vs
    · simp only [dropF, if_pos q]; exact List.nodup_nil
    · simp only [dropF, if_neg q]; exact rel.nd j
  · by_cases q : j ∈ vs
    · simp [dropF, q] at h1
    · by_cases p : k ∈ vs
      · simp [dropF, p] at h2
      · simp only [dropF, if_neg q] at h1
        simp only [dropF, if_neg p] at h2
        exact rel.dj j k a h1 h2
  · by_cases q : j ∈ vs
    · simp [dropF, q] at h
    · simp only [dropF, if_neg q] at h; exact rel.nz j a h
  · by_cases q : j ∈ vs
    · simp [dropF, q] at h
    · simp only [dropF, if_neg q] at h; exact rel.ft j a h
theorem Frm.back {vs : List Nat} {ρ0 : Env} {Fs0 : Ft} {Z0 : Addr → Prop} {H0 : Hp} (f : Frm T Z0 ρ0 Fs0 H0 Z ρ Fs H) : Frm (T ++ vs) Z0 ρ0 Fs0 H0 Z (backE ρ0 ρ vs) (dropF Fs vs) H := by
  have f2 := f.mono (T1 := T ++ vs) fun j hj => List.mem_append_left _ hj
  refine ⟨fun j hj => ?_, f2.keep, fun j hj a ha => ?_, f2.c3, f2.zz, by rw [backE_length]; exact f2.len⟩
  · have q : j ∉ vs := fun z => hj (List.mem_append_right _ z)
    have h := f2.sub j hj
    exact ⟨by simp only [dropF, if_neg q]; exact h.1, by rw [backE_out q]; exact h.2⟩
  · by_cases q : j ∈ vs
    · simp [dropF, q] at ha
    · simp only [dropF, if_neg q] at ha
      exact f2.c1 j hj a ha
end

section
variable {X : Cx} {T T1 T2 T3 O O1 O2 O3 W W1 W2 Wg Tg Tt Te : List Nat} {x x1 x2 x3 : Bool} {e c tg iter elt : Expr} {ifs : List Expr} {f fa fe : M D} {fi fr : M (List D)} {ft : M Bool} {pos : Pos} {g : D → Env → Option Env}
/-- one item more -/
theorem Val.app {K : PySem.W.Frag} {Z : Addr → Prop} {H : Hp} {Fs : Ft} {acc : List D} {DD : Addr} {F G : List Addr} {d : D} {v : V} (w : Val K Z H Fs [] true (.lst true acc) (.ref DD) F) (w2 : Val K Z H Fs [] true d v G) (hdj : ∀ a ∈ F, a ∉ G) :
    ∃ vs F0, H DD = some (.lst vs) ∧ vs.length = acc.length ∧ Val K Z (upd H DD (.lst (vs ++ [v]))) Fs [] true (.lst true (acc ++ [d])) (.ref DD) (DD :: (F0 ++ G)) ∧ DD ∈ F ∧ ∀ a ∈ F0, a ∈ F := by
  have hr := w.r
  obtain ⟨nd, nz⟩ := w.exc rfl
  obtain ⟨nd2, nz2⟩ := w2.exc rfl
  cases hr with
  | own h rs =>
    rename_i vs F0
    have k : Keep (fun a => a = DD) H (upd H DD (.lst (vs ++ [v]))) := Keep.wr h trivial
    have hm : DD ∈ DD :: F0 := List.mem_cons_self
    obtain ⟨n1, n2⟩ := List.nodup_cons.mp nd
    have hz : ∀ a, Z a → ¬ a = DD := fun a z e => nz DD hm (by rw [← e]; exact z)
    have hG : DD ∉ G := hdj DD hm
    refine ⟨vs, F0, h, rs.length.symm, ⟨.own upd_same (Rs.app (rs.keep k (fun _ h => h) hz fun a ha e => n1 (by rw [← e]; exact ha)) (Rs.one (w2.r.keep k (fun _ h => h) hz fun a ha e => hG (by rw [← e]; exact ha)))), fun j a h1 h2 => ?_, fun _ => ⟨?_, fun a ha => ?_⟩⟩, hm, fun a ha => List.mem_cons_of_mem _ ha⟩
    · rcases List.mem_cons.mp h1 with e | h1
      · exact w.ori j a (by rw [e]; exact hm) h2
      · rcases List.mem_append.mp h1 with h1 | h1
        · exact w.ori j a (List.mem_cons_of_mem _ h1) h2
        · exact w2.ori j a h1 h2
    · refine List.nodup_cons.mpr ⟨fun z => (List.mem_append.mp z).elim n1 hG, List.nodup_append.mpr ⟨n2, nd2, fun a h1 b h2 e => ?_⟩⟩
      subst e
      exact hdj a (List.mem_cons_of_mem _ h1) h2
    · rcases List.mem_cons.mp ha with e | h1
      · exact nz a (by rw [e]; exact hm)
      · rcases List.mem_append.mp h1 with h1 | h1
        · exact nz a (List.mem_cons_of_mem _ h1)
        · exact nz2 a h1
abbrev PTsV (X : Cx) (T : List Nat) (ifs : List Expr) (f : M Bool) : Prop := PTs X ifs (tVT X.K T f)
theorem ptsv_nil : PTsV X [] [] fYes := by
  refine ⟨fun pins s σ H Q I h => pts_nil.run pins s σ H Q I ?_⟩
  obtain ⟨Z, ρ, Fs, b, ρ', rel, hf, q⟩ := h
  cases hf
  exact q H Z Fs rel (Frm.refl _)
theorem ptsv_one (h : PTV X T c ft) : PTsV X T [c] ft := pts_one h
theorem backE_wipe {ρ0 ρ : Env} (hl : ρ.length = ρ0.length) (vs : List Nat) : backE ρ0 (wipeE ρ vs) vs = backE ρ0 ρ vs := by
  refine List.ext_getElem? fun i => ?_
  by_cases q : i ∈ vs
  · rw [backE_in (by rw [wipeE_length]; exact hl) q, backE_in hl q]
  · rw [backE_out q, backE_out q, wipeE_out q]
/-- within a comprehension: the new list is DD -/
structure BK (K : PySem.W.Frag) (Tl : List Nat) (Z1 : Addr → Prop) (ρ1 : Env) (Fs1 : Ft) (H1 : Hp) (DD : Addr) (acc : List D) (Z : Addr → Prop) (ρ : Env) (Fs : Ft) (H : Hp) (τ : L2.St) : Prop where
  rel : Rel K Z ρ τ H Fs
  frm : Frm Tl Z1 ρ1 Fs1 H1 Z ρ Fs H
  val : ∃ F, Val K Z H Fs [] true (.lst true acc) (.ref DD) F ∧ Cf Tl Fs1 H1 true F
section
variable {K : PySem.W.Frag} {Z Z' Z1 Z2 : Addr → Prop} {ρ ρ' ρ1 ρ2 : Env} {Fs Fs' Fs1 Fs2 : Ft} {H H' H1 H2 : Hp} {Tl T' : List Nat} {d : D} {v : V} {σ τ τ' : L2.St} {DD : Addr} {acc : List D}
theorem BK.step (b : BK K Tl Z1 ρ1 Fs1 H1 DD acc Z ρ Fs H τ) (rel : Rel K Z' ρ' τ' H' Fs') (f : Frm T' Z ρ Fs H Z' ρ' Fs' H') (hT : ∀ j ∈ T', j ∈ Tl) : BK K Tl Z1 ρ1 Fs1 H1 DD acc Z' ρ' Fs' H' τ' := by
  obtain ⟨F, w, c⟩ := b.val
  exact ⟨rel, (b.frm.trans f).mono fun j hj => (List.mem_append.mp hj).elim id (hT j), F, w.keep b.rel f (by simp [safe]), c⟩
theorem BK.keep0 (b : BK K Tl Z1 ρ1 Fs1 H1 DD acc Z ρ Fs H τ) (k : Keep M0 H H') : BK K Tl Z1 ρ1 Fs1 H1 DD acc Z ρ Fs H' τ := b.step (b.rel.keep0 k) (Frm.pure k) fun _ h => (by cases h)
theorem BK.wipe (b : BK K Tl Z1 ρ1 Fs1 H1 DD acc Z ρ Fs H τ) (vs : List Nat) (hl : τ'.length = τ.length) (h : ∀ i, i ∉ vs → τ'[i]? = τ[i]?) (hv : ∀ j ∈ vs, j ∈ Tl) : BK K Tl Z1 ρ1 Fs1 H1 DD acc Z (wipeE ρ vs) (dropF Fs vs) H τ' := by
  obtain ⟨F, w, c⟩ := b.val
  exact ⟨b.rel.wipe vs hl h, (b.frm.trans (Frm.wipe vs)).mono fun j hj => (List.mem_append.mp hj).elim id (hv j), F, w.wipe, c⟩
theorem BK.app {G : List Addr} (b : BK K Tl Z1 ρ1 Fs1 H1 DD acc Z ρ Fs H τ) (rel : Rel K Z' ρ' τ' H' Fs') (f : Frm T' Z ρ Fs H Z' ρ' Fs' H') (hT : ∀ j ∈ T', j ∈ Tl) (w2 : Val K Z' H' Fs' [] true d v G) (c2 : Cf T' Fs H true G) (hD : H1 DD = none) :
    ∃ vacc, H' DD = some (.lst vacc) ∧ vacc.length = acc.length ∧ BK K Tl Z1 ρ1 Fs1 H1 DD (acc ++ [d]) Z' ρ' Fs' (upd H' DD (.lst (vacc ++ [v]))) τ' := by
  obtain ⟨F, w, c⟩ := b.val
  have b2 := b.step rel f hT
  have w' := w.keep b.rel f (by simp [safe])
  have hdj : ∀ a ∈ F, a ∉ G := fun a ha hG => by
    rcases c2 rfl a hG with ⟨j, hj, q⟩ | q
    · exact absurd (w.ori j a ha q) (by simp)
    · exact w.r.tr a ha q
  obtain ⟨vacc, F0, h1, h2, h3, h4, h5⟩ := w'.app w2 hdj
  refine ⟨vacc, h1, h2, rel.wr h1 trivial (fun j h => absurd (w'.ori j DD h4 h) (by simp)) ((w'.exc rfl).2 DD h4), b2.frm.wr hD h1 trivial, _, h3, fun hx a ha => ?_⟩
  rcases List.mem_cons.mp ha with e | ha
  · exact .inr (by rw [e]; exact hD)
  · rcases List.mem_append.mp ha with ha | ha
    · exact c rfl a (h5 a ha)
    · exact ((Cf.late b.frm c2).mono fun j hj => (List.mem_append.mp hj).elim id (hT j)) rfl a ha
end
theorem tv_comp (vs : List Nat) (hW : Wg.all (fun i => vs.contains i) = true) (ho : O.all (fun i => !(vs ++ (Tg ++ (Tt ++ Te))).contains i) = true) {σ : L2.St} {H : Hp} {Q : VK} (h : tV X.K (T ++ ((vs ++ (Tg ++ (Tt ++ Te))) ++ vs)) [] true (fComp vs fi g ft fe) σ H Q) :
    tLc (tVI X.K T O fi) (tVG X.K Wg Tg g) (tVT X.K Tt ft) (tV X.K Te [] true fe) vs σ H Q := by
  obtain ⟨Z, ρ, Fs, d, ρ', rel, hf, q⟩ := h
  unfold fComp at hf
  obtain ⟨⟨items, ρ1⟩, h1, hf⟩ := Option.bind_eq_some_iff.mp hf
  split at hf
  · rename_i hok
    obtain ⟨⟨res, ρ2⟩, h2, hf⟩ := Option.bind_eq_some_iff.mp hf
    cases hf
    refine ⟨Z, ρ, Fs, items, ρ1, rel, h1, fun J H1 Z1 Fs1 A G Y rel1 f1 wk hA stay DD hDD => ?_⟩
    have inTl : ∀ {j}, j ∈ vs ∨ j ∈ Tg ∨ j ∈ Tt ∨ j ∈ Te → j ∈ vs ++ (Tg ++ (Tt ++ Te)) := fun {j} h => by
      rcases h with h | h | h | h
      · exact List.mem_append_left _ h
      · exact List.mem_append_right _ (List.mem_append_left _ h)
      · exact List.mem_append_right _ (List.mem_append_right _ (List.mem_append_left _ h))
      · exact List.mem_append_right _ (List.mem_append_right _ (List.mem_append_right _ h))
    generalize hTl : vs ++ (Tg ++ (Tt ++ Te)) = Tl at q ho inTl
    have far : ∀ a ∈ A, ¬ ∃ j ∈ Tl, a ∈ Fs1 j := fun a ha ⟨j, hj, hf⟩ => by
      have z := List.all_eq_true.mp ho j (hA j a ha hf)
      simp only [Bool.not_eq_true', List.contains_eq_mem, decide_eq_false_iff_not] at z
      exact z hj
    have znot : ∀ a, Z1 a → ¬ ∃ j ∈ Tl, a ∈ Fs1 j := fun a z ⟨j, _, ha⟩ => rel1.nz j a ha z
    have k0 : Keep M0 H1 (upd H1 DD (.lst [])) := Keep.new hDD
    have inW : ∀ j ∈ Wg, j ∈ vs := fun j hj => by simpa using List.all_eq_true.mp hW j hj
    have b0 : BK X.K Tl Z1 ρ1 Fs1 H1 DD [] Z1 (wipeE ρ1 vs) (dropF Fs1 vs) (upd H1 DD (.lst [])) (wipe σ vs) := by
      have b : BK X.K Tl Z1 ρ1 Fs1 H1 DD [] Z1 ρ1 Fs1 (upd H1 DD (.lst [])) σ := by
        refine ⟨rel1.keep0 k0, Frm.pureT _ k0, [DD], ⟨.own upd_same .nil, fun j a h1 h2 => ?_, fun _ => ⟨by simp, fun a ha z => ?_⟩⟩, fun _ a ha => .inr ?_⟩
        · have e : a = DD := by simpa using h1
          exact absurd hDD (by rw [← e]; exact rel1.ft j a h2)
        · have e : a = DD := by simpa using ha
          exact rel1.zt a z (by rw [e]; exact hDD)
        · have e : a = DD := by simpa using ha
          rw [e]; exact hDD
      exact b.wipe vs (wipe_length _ _) (fun i hi => wipe_out' hi) fun j hj => inTl (.inl hj)
    refine lc_it wk (vs := vs) (fun i Hi => ∃ Zi ρi Fsi acc, BK X.K Tl Z1 ρ1 Fs1 H1 DD acc Zi (wipeE ρi vs) Fsi Hi (wipe σ vs) ∧ ρi.length = ρ1.length ∧ compL vs g ft fe (items.drop i) ρi acc = some (res, ρ2)) ?_ ?_ ?_ ?_
    · exact ⟨Z1, ρ1, _, [], b0, rfl, by rw [List.drop_zero]; exact h2⟩
    · intro i Hi hi ⟨Zi, ρi, Fsi, acc, b, hl, hc⟩
      exact (stay _ Zi Hi b.frm.keep far znot b.frm.zz).1
    · intro i v Hi H' hi ⟨Zi, ρi, Fsi, acc, b, hl, hc⟩ y
      have hd : items[i]? = some items[i] := List.getElem?_eq_getElem hi
      obtain ⟨k, rv⟩ := (stay _ Zi Hi b.frm.keep far znot b.frm.zz).2 i v H' _ y hd
      rw [List.drop_eq_getElem_cons hi] at hc
      obtain ⟨ρg, hg1, hc⟩ := Option.bind_eq_some_iff.mp hc
      obtain ⟨⟨bt, ρt⟩, ht1, hc⟩ := Option.bind_eq_some_iff.mp hc
      have b1 := b.keep0 k
      refine ⟨Zi, wipeE ρi vs, Fsi, items[i], ρg, b1.rel, rv, hg1, fun σ2 H2 Z2 Fs2 fn2 => ⟨?_, ?_⟩⟩
      · refine wipe_eq (by rw [fn2.sl, wipe_length]) fun j hj => ?_
        rw [fn2.sg j fun z => hj (inW j z), wipe_out' hj]
      · have b2 := b1.step fn2.rel fn2.frm fun j hj => inTl (.inr (.inl hj))
        have outs2 : ∀ j, j ∉ vs → (wipe σ vs)[j]? = σ2[j]? := fun j hj => (fn2.sg j fun z => hj (inW j z)).symm
        refine ⟨Z2, ρg, Fs2, bt, ρt, fn2.rel, ht1, fun H3 Z3 Fs3 rel3 f3 => ?_⟩
        have b3 := b2.step rel3 f3 fun j hj => inTl (.inr (.inr (.inl hj)))
        cases bt with
        | false =>
          refine iteF ?_
          rw [if_neg Bool.false_ne_true] at hc
          refine ⟨Z3, ρt, _, acc, b3.wipe vs (by rw [fn2.sl]) outs2 fun j hj => inTl (.inl hj), b3.frm.len, hc⟩
        | true =>
          refine iteT ?_
          rw [if_pos rfl] at hc
          obtain ⟨⟨de, ρe⟩, he1, hc⟩ := Option.bind_eq_some_iff.mp hc
          split at hc
          · rename_i hz
            refine ⟨Z3, ρt, Fs3, de, ρe, rel3, he1, fun v4 H4 Z4 Fs4 F4 rel4 f4 w4 c4 => ?_⟩
            obtain ⟨vacc, hv1, hv2, b4⟩ := b3.app rel4 f4 (fun j hj => inTl (.inr (.inr (.inr hj)))) w4 c4 hDD
            exact ⟨vacc, hv1, by rw [hv2]; exact sz_lt hz, Z4, ρe, _, _, b4.wipe vs (by rw [fn2.sl]) outs2 fun j hj => inTl (.inl hj), b4.frm.len, hc⟩
          · cases hc
    · intro Hi ⟨Zi, ρi, Fsi, acc, b, hl, hc⟩
      rw [List.drop_length] at hc
      cases hc
      obtain ⟨F, w, c⟩ := b.val
      have rb := Rel.back rel1 hok b.rel b.frm
      have fb := Frm.back (vs := vs) b.frm
      rw [backE_wipe hl] at rb fb
      exact q (.ref DD) Hi Zi _ F rb (f1.trans fb) w.wipe (Cf.late f1 (c.mono fun j hj => List.mem_append_left _ hj))
  · cases hf
theorem pev_lc {scope : Scope} {own : List (Str × Nat)} (hc : X.calm = true) (hN : X.N.Nodup) (hi : PIV X T O tg iter fi) (ok : BlkOk X.N X.env.scope scope own)
    (hg : ∀ (s : Shared) (H : Hp) (C : Addr) (cl : List (Str × Addr)) (fp : List Addr), PGV (X.blk s H scope (compEnvC scope cl C X.env) fp) Wg Tg tg g) (ht : ∀ (s : Shared) (H : Hp) (C : Addr) (cl : List (Str × Addr)) (fp : List Addr), PTsV (X.blk s H scope (compEnvC scope cl C X.env) fp) Tt ifs ft)
    (he : ∀ (s : Shared) (H : Hp) (C : Addr) (cl : List (Str × Addr)) (fp : List Addr), PEV (X.blk s H scope (compEnvC scope cl C X.env) fp) Te [] true elt fe) (hW : Wg.all (fun i => (own.map (·.2)).contains i) = true := by rfl) (ho : O.all (fun i => !((own.map (·.2)) ++ (Tg ++ (Tt ++ Te))).contains i) = true := by rfl)
    (hs : ∀ x, foldedSetIterable iter X.env x = pure x := by intro _; rfl) :
    PEV X (T ++ (((own.map (·.2)) ++ (Tg ++ (Tt ++ Te))) ++ (own.map (·.2)))) [] true (.ListComp elt [⟨tg, iter, ifs, 0⟩] scope pos) (fComp (own.map (·.2)) fi g ft fe) :=
  PE.imp (pe_lc hc hN hi ok hg ht he hs) fun σ H Q h => tv_comp _ hW ho h
theorem psv_setLc (i : Nat) {y : Str} {py spos : Pos} {scope : Scope} {own : List (Str × Nat)} (hc : X.calm = true) (hN : X.N.Nodup) (hsw : swapsWith (.ListComp elt [⟨tg, iter, ifs, 0⟩] scope pos) (some (.Name y py)) spos.line X.env = pure true) (hi : PIV X T O tg iter fi) (ok : BlkOk X.N X.env.scope scope own)
    (hg : ∀ (s : Shared) (H : Hp) (C : Addr) (cl : List (Str × Addr)) (fp : List Addr), PGV (X.blk s H scope (compEnvC scope cl C X.env) fp) Wg Tg tg g) (ht : ∀ (s : Shared) (H : Hp) (C : Addr) (cl : List (Str × Addr)) (fp : List Addr), PTsV (X.blk s H scope (compEnvC scope cl C X.env) fp) Tt ifs ft)
    (he : ∀ (s : Shared) (H : Hp) (C : Addr) (cl : List (Str × Addr)) (fp : List Addr), PEV (X.blk s H scope (compEnvC scope cl C X.env) fp) Te [] true elt fe) (hy : X.N[i]? = some y := by rfl) (hyl : X.env.scope.names.lookup y = some .local := by rfl)
    (hW : Wg.all (fun i => (own.map (·.2)).contains i) = true := by rfl) (ho : O.all (fun i => !((own.map (·.2)) ++ (Tg ++ (Tt ++ Te))).contains i) = true := by rfl)
    (hs : ∀ x, foldedSetIterable iter X.env x = pure x := by intro _; rfl) :
    PSV X [i] (i :: (T ++ (((own.map (·.2)) ++ (Tg ++ (Tt ++ Te))) ++ (own.map (·.2))))) (.Assign [.Name y py] (.ListComp elt [⟨tg, iter, ifs, 0⟩] scope pos) spos) (sSet i (fComp (own.map (·.2)) fi g ft fe)) := by
  refine PS.imp (ps_setLc (g := tVG X.K Wg Tg g) (tt := tVT X.K Tt ft) (te := tV X.K Te [] true fe) hc hN hy hyl hsw hi ok hg ht he hs) fun D σ H h => ?_
  obtain ⟨Z, ρ, Fs, r, rel, hf, h1, h2, h3, h4⟩ := h
  unfold sSet at hf
  obtain ⟨⟨d, ρ1⟩, hp, hf⟩ := Option.bind_eq_some_iff.mp hf
  cases hf
  exact tv_comp _ hW ho ⟨Z, ρ, Fs, d, ρ1, rel, hp, fun v H' Z' Fs' F rel' f' w c => h1 _ rfl _ _ _ _ (Fin.put rel' f' w c)⟩
end
end Vl

namespace Vl
open PySem PySem.Spec PyProof.Rows L2

/-! ### data as the kit's deep data: == -/
mutual
def D.toP : D → PyData
  | .non => .none
  | .bl b => .bool b
  | .int i => .int i
  | .str s => .str s
  | .tup l => .tuple (D.toPL l)
  | .lst _ l => .list (D.toPL l)
  | .dct _ _ _ => .dict []
  | .scr l => .list (D.toPL l)
  | .xt l => .tuple (D.toPL l)
def D.toPL : List D → List PyData
  | [] => []
  | d :: r => d.toP :: D.toPL r
end
mutual
/-- no dict within, texts of true signs -/
def D.eok : D → Bool
  | .non => true
  | .bl _ => true
  | .int _ => true
  | .str s => PyData.strOk s
  | .tup l => D.eokL l
  | .lst _ l => D.eokL l
  | .dct _ _ _ => false
  | .scr l => D.eokL l
  | .xt l => D.eokL l
def D.eokL : List D → Bool
  | [] => true
  | d :: r => d.eok && D.eokL r
end
mutual
def D.dep : D → Nat
  | .non => 0
  | .bl _ => 0
  | .int _ => 0
  | .str _ => 0
  | .tup l => D.depL l + 1
  | .lst _ l => D.depL l + 1
  | .dct _ _ _ => 1
  | .scr l => D.depL l + 1
  | .xt l => D.depL l + 1
def D.depL : List D → Nat
  | [] => 0
  | d :: r => max d.dep (D.depL r)
end
mutual
theorem D.canLay : ∀ {d : D}, d.eok = true → d.toP.canLay0 = true
  | .non, _ => by simp [D.toP, PyData.canLay0]
  | .bl _, _ => by simp [D.toP, PyData.canLay0]
  | .int _, _ => by simp [D.toP, PyData.canLay0]
  | .str s, h => by simpa [D.toP, PyData.canLay0, D.eok] using h
  | .tup l, h => by
    have h : D.eokL l = true := by simpa [D.eok] using h
    simpa [D.toP, PyData.canLay0] using D.canLayL h
  | .lst _ l, h => by
    have h : D.eokL l = true := by simpa [D.eok] using h
    simpa [D.toP, PyData.canLay0] using D.canLayL h
  | .dct _ _ _, h => by simp [D.eok] at h
  | .scr l, h => by
    have h : D.eokL l = true := by simpa [D.eok] using h
    simpa [D.toP, PyData.canLay0] using D.canLayL h
  | .xt l, h => by
    have h : D.eokL l = true := by simpa [D.eok] using h
    simpa [D.toP, PyData.canLay0] using D.canLayL h
theorem D.canLayL : ∀ {l : List D}, D.eokL l = true → PyData.canLayAll0 (D.toPL l) = true
  | [], _ => by simp [D.toPL, PyData.canLayAll0]
  | d :: r, h => by
    have h : (d.eok && D.eokL r) = true := h
    rw [Bool.and_eq_true] at h
    simp only [D.toPL, PyData.canLayAll0, D.canLay h.1, D.canLayL h.2, Bool.and_self]
end
mutual
theorem D.depthP : ∀ d : D, d.toP.depth = d.dep
  | .non => by simp [D.toP, D.dep, PyData.depth]
  | .bl _ => by simp [D.toP, D.dep, PyData.depth]
  | .int _ => by simp [D.toP, D.dep, PyData.depth]
  | .str _ => by simp [D.toP, D.dep, PyData.depth]
  | .tup l => by simp only [D.toP, D.dep, PyData.depth, D.depthPL l]
  | .lst _ l => by simp only [D.toP, D.dep, PyData.depth, D.depthPL l]
  | .dct _ _ _ => by simp [D.toP, D.dep, PyData.depth, PyData.depthKv]
  | .scr l => by simp only [D.toP, D.dep, PyData.depth, D.depthPL l]
  | .xt l => by simp only [D.toP, D.dep, PyData.depth, D.depthPL l]
theorem D.depthPL : ∀ l : List D, PyData.depthAll (D.toPL l) = D.depL l
  | [] => by simp [D.toPL, D.depL, PyData.depthAll]
  | d :: r => by simp only [D.toPL, D.depL, PyData.depthAll, D.depthP d, D.depthPL r]
end
def eqOk (d : D) : Bool := d.eok && decide (d.dep ≤ 60)
theorem eqOk.shaped {d : D} (h : eqOk d = true) : SeqAt.shaped d.toP = true := by
  unfold eqOk at h
  rw [Bool.and_eq_true] at h
  unfold SeqAt.shaped
  rw [D.canLay h.1, D.depthP]
  have := of_decide_eq_true h.2
  simp
  omega
def pyEq (d e : D) : Bool := PyData.eqv d.toP e.toP
section
variable {K : PySem.W.Frag} {Z : Addr → Prop} {H : Hp}
mutual
theorem R.dp : ∀ {d : D} {v : V} {F : List Addr}, R K Z H d v F → d.eok = true → Dp K H v d.toP
  | _, _, _, .non, _ => .non
  | _, _, _, .bl b, _ => .bl b
  | _, _, _, .int i, _ => .int i
  | _, _, _, .str s, _ => .str s
  | _, _, _, .tup h r, e => .tup (SqT.of h) (Rs.dp r (by simpa [D.eok] using e))
  | _, _, _, .own h r, e => .lst (SqL.of h) (Rs.dp r (by simpa [D.eok] using e))
  | _, _, _, .fzn h z r, e => .lst (SqL.of h) (Rs.dp r (by simpa [D.eok] using e))
  | _, _, _, .knw h r, e => .lst h.l (Rs.dp r (by simpa [D.eok] using e))
  | _, _, _, .dow h r, e => by simp [D.eok] at e
  | _, _, _, .dfz h z r, e => by simp [D.eok] at e
  | _, _, _, .dlk h r, e => by simp [D.eok] at e
  | _, _, _, .xt h _ _ r, e => .tup (.inl (.inr ⟨_, h⟩)) (Rs.dp r (by simpa [D.eok] using e))
theorem Rs.dp : ∀ {ds : List D} {vs : List V} {F : List Addr}, Rs K Z H ds vs F → D.eokL ds = true → DpAll K H vs (D.toPL ds)
  | _, _, _, .nil, _ => .nil
  | _, _, _, .cons r rs, h => by
    have h : (D.eok _ && D.eokL _) = true := h
    rw [Bool.and_eq_true] at h
    exact .cons (R.dp r h.1) (Rs.dp rs h.2)
end
end
def gEq (d e : D) : Option D := if (eqOk d && eqOk e) = true then some (.bl (pyEq d e)) else none
def gNe (d e : D) : Option D := if (eqOk d && eqOk e) = true then some (.bl (!pyEq d e)) else none
theorem eqOk.eok {d : D} (h : eqOk d = true) : d.eok = true := by
  unfold eqOk at h
  rw [Bool.and_eq_true] at h
  exact h.1
/-- an answer that makes nothing -/
theorem OpS.here {K : PySem.W.Frag} {r : R2} {g : D → D → Option D} (h : ∀ (Z : Addr → Prop) (H : Hp) (d1 d2 : D) (v1 v2 : V) (F1 F2 : List Addr) (d : D) (Q : VK), R K Z H d1 v1 F1 → R K Z H d2 v2 F2 → g d1 d2 = some d → (∀ v, R K Z H d v [] → Q v H) → r v1 v2 H Q) : OpS K r g :=
  fun Z H d1 d2 v1 v2 F1 F2 d Q r1 r2 hg q => h Z H d1 d2 v1 v2 F1 F2 d Q r1 r2 hg fun v rv => q v H [] (Keep.refl _ _) rv List.nodup_nil fun _ h => (by cases h)
theorem os_eq {K : PySem.W.Frag} : OpS K (rEqD K) gEq := OpS.here fun Z H d1 d2 v1 v2 F1 F2 d Q r1 r2 hg q => by
  unfold gEq at hg
  split at hg
  · rename_i h
    cases hg
    rw [Bool.and_eq_true] at h
    exact ⟨d1.toP, d2.toP, r1.dp (eqOk.eok h.1), r2.dp (eqOk.eok h.2), eqOk.shaped h.1, eqOk.shaped h.2, q _ (.bl _)⟩
  · cases hg
theorem os_ne {K : PySem.W.Frag} : OpS K (rNeD K) gNe := OpS.here fun Z H d1 d2 v1 v2 F1 F2 d Q r1 r2 hg q => by
  unfold gNe at hg
  split at hg
  · rename_i h
    cases hg
    rw [Bool.and_eq_true] at h
    exact ⟨d1.toP, d2.toP, r1.dp (eqOk.eok h.1), r2.dp (eqOk.eok h.2), eqOk.shaped h.1, eqOk.shaped h.2, q _ (.bl _)⟩
  · cases hg

/-! ### ints -/
def gI (f : Int → Int → D) (d e : D) : Option D := match d, e with
  | .int i, .int j => some (f i j)
  | _, _ => none
def gIc (c : Int → Int → Bool) (f : Int → Int → D) (d e : D) : Option D := match d, e with
  | .int i, .int j => if c i j = true then some (f i j) else none
  | _, _ => none
theorem R.ints {K : PySem.W.Frag} {Z : Addr → Prop} {H : Hp} {d : D} {v : V} {F : List Addr} {i : Int} (r : R K Z H d v F) (e : d = .int i) : v = .int i := by
  subst e
  exact r.int_inv
theorem os_I {K : PySem.W.Frag} {f : Int → Int → Int} : OpS K (rI0 fun i j => .int (f i j)) (gI fun i j => .int (f i j)) := OpS.here fun Z H d1 d2 v1 v2 F1 F2 d Q r1 r2 hg q => by
  unfold gI at hg
  split at hg
  · cases hg
    exact ⟨_, _, r1.int_inv, r2.int_inv, q _ (.int _)⟩
  · cases hg
theorem os_B {K : PySem.W.Frag} {f : Int → Int → Bool} : OpS K (rI0 fun i j => .bl (f i j)) (gI fun i j => .bl (f i j)) := OpS.here fun Z H d1 d2 v1 v2 F1 F2 d Q r1 r2 hg q => by
  unfold gI at hg
  split at hg
  · cases hg
    exact ⟨_, _, r1.int_inv, r2.int_inv, q _ (.bl _)⟩
  · cases hg
theorem os_Ic {K : PySem.W.Frag} {C : Int → Int → Prop} {c : Int → Int → Bool} {f : Int → Int → Int} (h : ∀ i j, c i j = true → C i j) : OpS K (rI C fun i j => .int (f i j)) (gIc c fun i j => .int (f i j)) := OpS.here fun Z H d1 d2 v1 v2 F1 F2 d Q r1 r2 hg q => by
  unfold gIc at hg
  split at hg
  · split at hg
    · rename_i hc
      cases hg
      exact ⟨_, _, r1.int_inv, r2.int_inv, h _ _ hc, q _ (.int _)⟩
    · cases hg
  · cases hg
def gLt : D → D → Option D := gI fun i j => .bl (decide (i < j))
def gLe : D → D → Option D := gI fun i j => .bl (decide (i ≤ j))
def gGt : D → D → Option D := gI fun i j => .bl (decide (j < i))
def gGe : D → D → Option D := gI fun i j => .bl (decide (j ≤ i))
def gSub : D → D → Option D := gI fun i j => .int (i - j)
def bitsOk (i : Int) : Bool := decide (i.natAbs < 2 ^ 400000)
def cMul (i j : Int) : Bool := decide (i.natAbs < 2 ^ 63) || decide (j.natAbs < 2 ^ 63) || (bitsOk i && bitsOk j)
def cMod (_ j : Int) : Bool := decide (j ≠ 0)
def cDiv (_ j : Int) : Bool := decide (j ≠ 0) && decide (j.natAbs < 2 ^ 8000)
/-- // by a divisor below 2 ^ 8000, either way -/
def CDivL (_ j : Int) : Prop := j ≠ 0 ∧ j.natAbs < 2 ^ 8000
theorem op_fdivL {X : Cx} : OpR X (binaryOp .FloorDiv) (rI CDivL fun i j => .int (i.fdiv j)) := opI fun _ _ _ _ _ _ _ hc q =>
  floordiv_int hc.1 q (.inl (PyProof.noPylong_of_log2 (Nat.lt_of_lt_of_le (PySem.Flt.log2_lt_of (by decide) hc.2) (by decide))))
def cPow (i j : Int) : Bool := decide (0 ≤ j) && decide (j ≤ 1000000) && decide (i.natAbs < 2 ^ 64)
def CMulV (i j : Int) : Prop := CMul i j ∨ CMulW i j
theorem cMul_ok {i j : Int} (h : cMul i j = true) : CMulV i j := by
  unfold cMul at h
  rw [Bool.or_eq_true, Bool.or_eq_true] at h
  have z : ∀ {k : Int}, decide (k.natAbs < 2 ^ 63) = true → -(2 ^ 64) < k ∧ k < 2 ^ 64 := fun {k} h => by
    have := of_decide_eq_true h
    omega
  rcases h with (h | h) | h
  · exact .inl (.inl (z h))
  · exact .inl (.inr (z h))
  · rw [Bool.and_eq_true] at h
    exact .inr (wide_mul (of_decide_eq_true h.1) (of_decide_eq_true h.2) (by decide) (by decide) (by decide))
theorem op_mulV {X : Cx} : OpR X (binaryOp .Mult) (rI CMulV fun i j => .int (i * j)) := opI fun _ _ _ _ _ _ _ hc q => mul_int q (hc.elim CMul.ok CMulW.ok)
theorem iop_mulV {X : Cx} : OpR X (inplaceOp .Mult) (rI CMulV fun i j => .int (i * j)) := opI fun _ _ _ _ _ _ _ hc q => imul_int q (hc.elim CMul.ok CMulW.ok)
def gMulI : D → D → Option D := gIc cMul fun i j => .int (i * j)
def gMod : D → D → Option D := gIc cMod fun i j => .int (i.fmod j)
def gDiv : D → D → Option D := gIc cDiv fun i j => .int (i.fdiv j)
def gPow : D → D → Option D := gIc cPow fun i j => .int (i ^ j.toNat)
theorem os_mulI {K : PySem.W.Frag} : OpS K (rI CMulV fun i j => .int (i * j)) gMulI := os_Ic fun _ _ h => cMul_ok h
theorem os_mod {K : PySem.W.Frag} : OpS K (rI (fun _ j => j ≠ 0) fun i j => .int (i.fmod j)) gMod := os_Ic fun _ _ h => of_decide_eq_true h
theorem os_div {K : PySem.W.Frag} : OpS K (rI CDivL fun i j => .int (i.fdiv j)) gDiv := os_Ic fun _ _ h => by
  unfold cDiv at h
  rw [Bool.and_eq_true] at h
  exact ⟨of_decide_eq_true h.1, of_decide_eq_true h.2⟩
theorem os_pow {K : PySem.W.Frag} : OpS K (rI CPow fun i j => .int (i ^ j.toNat)) gPow := os_Ic fun _ _ h => by
  unfold cPow at h
  rw [Bool.and_eq_true, Bool.and_eq_true] at h
  have := of_decide_eq_true h.2
  exact ⟨of_decide_eq_true h.1.1, of_decide_eq_true h.1.2, this⟩
def gNeg : D → Option D
  | .int i => some (.int (-i))
  | _ => none
theorem us_neg {K : PySem.W.Frag} : UnS K (rU fun i => .int (-i)) gNeg := fun Z H d1 v1 F1 d Q r1 hg q => by
  unfold gNeg at hg
  split at hg
  · cases hg
    exact ⟨_, r1.int_inv, q _ H [] (Keep.refl _ _) (.int _) List.nodup_nil fun _ h => (by cases h)⟩
  · cases hg

/-! ### + -/
def rAddStr : R2 := fun x y H Q => ∃ i j, x = .str i ∧ y = .str j ∧ i.length + j.length ≤ sizeLine ∧ Q (.str (i ++ j)) H
abbrev rAddV (K : PySem.W.Frag) : R2 := fun x y H Q => (rI0 fun i j => .int (i + j)) x y H Q ∨ ((rCatA K) x y H Q ∨ (rCat x y H Q ∨ rAddStr x y H Q))
theorem op_addV {X : Cx} : OpR X (binaryOp .Add) (rAddV X.K) := op_add.or (op_catA.or (op_cat.or op_add_str))
def gAdd (d e : D) : Option D := match d, e with
  | .int i, .int j => some (.int (i + j))
  | .tup a, .tup b => if (szOk (a.length + b.length) && D.noOwnL a && D.noOwnL b) = true then some (.tup (a ++ b)) else none
  | .lst _ a, .lst _ b => if (szOk (a.length + b.length) && D.noOwnL a && D.noOwnL b) = true then some (.lst true (a ++ b)) else none
  | .str a, .str b => if szOk (a.length + b.length) = true then some (.str (a ++ b)) else none
  | _, _ => none
theorem R.lst_tr {K : PySem.W.Frag} {Z : Addr → Prop} {H : Hp} {o : Bool} {ds : List D} {v : V} {F : List Addr} (r : R K Z H (.lst o ds) v F) : ∃ a vs G, v = .ref a ∧ H a = some (.lst vs) ∧ Rs K Z H ds vs G := by
  cases r with
  | own h rs => exact ⟨_, _, _, rfl, h, rs⟩
  | fzn h z rs => exact ⟨_, _, _, rfl, h, rs⟩
theorem R.own_inv {K : PySem.W.Frag} {Z : Addr → Prop} {H : Hp} {ds : List D} {v : V} {F : List Addr} (r : R K Z H (.lst true ds) v F) : ∃ a vs G, v = .ref a ∧ F = a :: G ∧ H a = some (.lst vs) ∧ Rs K Z H ds vs G := by
  cases r with
  | own h rs => exact ⟨_, _, _, rfl, rfl, h, rs⟩
theorem Rs.keep0 {K : PySem.W.Frag} {Z : Addr → Prop} {H H' : Hp} {ds : List D} {vs : List V} {F : List Addr} (r : Rs K Z H ds vs F) (k : Keep M0 H H') : Rs K Z H' ds vs F := r.keep k (fun _ h => h) (fun _ _ h => h) fun _ _ h => h
theorem R.keep0 {K : PySem.W.Frag} {Z : Addr → Prop} {H H' : Hp} {d : D} {v : V} {F : List Addr} (r : R K Z H d v F) (k : Keep M0 H H') : R K Z H' d v F := r.keep k (fun _ h => h) (fun _ _ h => h) fun _ _ h => h
/-- a new list of shared items -/
theorem new_list {K : PySem.W.Frag} {Z : Addr → Prop} {H : Hp} {ds : List D} {vs : List V} {Q : VK} {p : Addr} (hp : H p = none) (rs : Rs K Z H ds vs []) (q : ∀ v H' F, Keep M0 H H' → R K Z H' (.lst true ds) v F → F.Nodup → (∀ a ∈ F, H a = none) → Q v H') : Q (.ref p) (upd H p (.lst vs)) := by
  have k : Keep M0 H (upd H p (.lst vs)) := Keep.new hp
  refine q _ _ [p] k (.own upd_same (rs.keep0 k)) (by simp) fun a ha => ?_
  have e : a = p := by simpa using ha
  rw [e]
  exact hp
theorem new_tup {K : PySem.W.Frag} {Z : Addr → Prop} {H : Hp} {ds : List D} {vs : List V} {Q : VK} {p : Addr} (hp : H p = none) (rs : Rs K Z H ds vs []) (q : ∀ v H' F, Keep M0 H H' → R K Z H' (.tup ds) v F → F.Nodup → (∀ a ∈ F, H a = none) → Q v H') : Q (.ref p) (upd H p (.tup vs)) := by
  have k : Keep M0 H (upd H p (.tup vs)) := Keep.new hp
  exact q _ _ [] k (.tup upd_same (rs.keep0 k)) List.nodup_nil fun a ha => (by cases ha)
theorem same_val {K : PySem.W.Frag} {Z : Addr → Prop} {H : Hp} {d : D} {v : V} {Q : VK} (r : R K Z H d v []) (q : ∀ v H' F, Keep M0 H H' → R K Z H' d v F → F.Nodup → (∀ a ∈ F, H a = none) → Q v H') : Q v H :=
  q v H [] (Keep.refl _ _) r List.nodup_nil fun _ h => (by cases h)
theorem os_add {K : PySem.W.Frag} : OpS K (rAddV K) gAdd := fun Z H d1 d2 v1 v2 F1 F2 d Q r1 r2 hg q => by
  unfold gAdd at hg
  split at hg
  · cases hg
    exact .inl ⟨_, _, r1.int_inv, r2.int_inv, same_val (.int _) q⟩
  · split at hg
    · rename_i h
      cases hg
      rw [Bool.and_eq_true, Bool.and_eq_true] at h
      obtain ⟨a, vs, rfl, ha, ra⟩ := r1.tup_tr
      obtain ⟨b, ws, rfl, hb, rb⟩ := r2.tup_tr
      have ra := ra.nil_of h.1.2
      have rb := rb.nil_of h.2
      refine .inr (.inl ⟨a, b, vs, ws, rfl, rfl, SqT.of ha, SqT.of hb, by rw [← ra.length, ← rb.length]; exact sz_of h.1.1, fun e => ?_, fun _ e => ?_, fun _ _ p hp => new_tup hp (ra.app rb) q⟩)
      · subst e
        have e2 := ra.length
        rw [List.length_nil] at e2
        rw [List.eq_nil_of_length_eq_zero e2, List.nil_append] at q
        exact same_val (.tup hb rb) q
      · subst e
        have e2 := rb.length
        rw [List.length_nil] at e2
        rw [List.eq_nil_of_length_eq_zero e2, List.append_nil] at q
        exact same_val (.tup ha ra) q
    · cases hg
  · split at hg
    · rename_i h
      cases hg
      rw [Bool.and_eq_true, Bool.and_eq_true] at h
      obtain ⟨a, vs, G, rfl, ha, ra⟩ := r1.lst_tr
      obtain ⟨b, ws, G2, rfl, hb, rb⟩ := r2.lst_tr
      have ra := ra.nil_of h.1.2
      have rb := rb.nil_of h.2
      exact .inr (.inr (.inl ⟨a, b, vs, ws, rfl, rfl, ha, hb, by rw [← ra.length, ← rb.length]; exact sz_of h.1.1, fun p hp => new_list hp (ra.app rb) q⟩))
    · cases hg
  · split at hg
    · rename_i h
      cases hg
      exact .inr (.inr (.inr ⟨_, _, r1.str_inv, r2.str_inv, sz_of h, same_val (.str _) q⟩))
    · cases hg
  · cases hg
end Vl

namespace Vl
open PySem PySem.Spec PyProof.Rows L2
theorem tuple_mulS (l : Addr) (items : Array Value) (n : Nat) (dd : Option Addr) (sl : Array (Option Value)) (x : Int) (u : Tok) (c0 : (decide (x < -(2 ^ 63)) || decide (x ≥ 2 ^ 63)) = false) (c1 : (items.isEmpty || x == 1) = true) :
    Meets (Builtin.«tuple.__mul__» ⟨[.ref l, .int x u], []⟩) (fun _ R s => s.heap.get? l = some { cls := .type "tuple", dict := dd, data := .seq items n, slots := sl } ∧ R (.ok (.ret (Value.ref l))) s) :=
  .of_wp fun prog w A R s h => by
    obtain ⟨hp, g, d, tk, os⟩ := s
    obtain ⟨hl, h⟩ := h
    have f1 := AutoSeq1.idx_int
    wp_walk using wpAny_loadPart' hl
    repeat (first
      | (refine wpAny_ite_false (decide_eq_false (by rw [c0]; exact Bool.false_ne_true)) ?_; wp_walk using wpAny_loadPart' hl)
      | (refine wpAny_ite_true (decide_eq_true (by rw [c1])) ?_; wp_walk using wpAny_loadPart' hl))
    exact ⟨_, rfl, h⟩
theorem tuple_mul0 (l : Addr) (items : Array Value) (n : Nat) (dd : Option Addr) (sl : Array (Option Value)) (x : Int) (u : Tok) (c0 : (decide (x < -(2 ^ 63)) || decide (x ≥ 2 ^ 63)) = false) (c1 : (items.isEmpty || x == 1) = false) (c2 : (decide (x ≤ 0) || items.isEmpty) = true) :
    Meets (Builtin.«tuple.__mul__» ⟨[.ref l, .int x u], []⟩) (fun _ R s => s.heap.get? l = some { cls := .type "tuple", dict := dd, data := .seq items n, slots := sl } ∧
      R (.ok (.ret (Value.ref s.heap.objs.size))) { s with heap := s.heap.push { cls := Value.type "tuple", data := Data.seq #[] }, toks := s.toks }) :=
  .of_wp fun prog w A R s h => by
    obtain ⟨hp, g, d, tk, os⟩ := s
    obtain ⟨hl, h⟩ := h
    have f1 := AutoSeq1.idx_int
    wp_walk using wpAny_loadPart' hl
    repeat (first
      | (refine wpAny_ite_false (decide_eq_false (by rw [c0]; exact Bool.false_ne_true)) ?_; wp_walk using wpAny_loadPart' hl)
      | (refine wpAny_ite_false (decide_eq_false (by rw [c1]; exact Bool.false_ne_true)) ?_; wp_walk using wpAny_loadPart' hl)
      | (refine wpAny_ite_true (decide_eq_true (by rw [c2])) ?_; wp_walk using wpAny_loadPart' hl))
    exact ⟨_, rfl, h⟩
/-- tuple * int, whatever the int -/
def rRepA (K : PySem.W.Frag) : R2 := fun x y H Q => ∃ l k xs, x = .ref l ∧ y = .int k ∧ SqT K H l xs ∧ -1000000 ≤ k ∧ k ≤ 1000000 ∧ xs.length * k.toNat ≤ 1000000 ∧
  ((xs = [] ∨ k = 1) → Q (.ref l) H) ∧ (¬ (xs = [] ∨ k = 1) → ∀ p, H p = none → Q (.ref p) (upd H p (.tup (List.replicate k.toNat xs).flatten)))
theorem op_repA {X : Cx} : OpR X (binaryOp .Mult) (rRepA X.K) := by
  intro pins s σ H x y v u Q I rx ry h
  obtain ⟨l, k, xs, rfl, rfl, hT, h1, h2, hz, q1, q2⟩ := h
  cases rx
  obtain ⟨t, rfl⟩ := ry
  obtain ⟨its, r, ⟨⟨cls, dd, data, sl⟩, ho, hc, n, hd⟩, hs⟩ := I.tuple hT
  simp only at hc hd
  subst hc hd
  have hle : its.length = xs.length := r.length.symm
  have hsz0 : its.toArray.size = xs.length := by rw [List.size_toArray, hle]
  have c0 : (decide (k < -(2 ^ 63)) || decide (k ≥ 2 ^ 63)) = false := by
    rw [decide_eq_false (by omega), decide_eq_false (by omega)] <;> rfl
  have emp : its.toArray.isEmpty = true ↔ xs = [] := by
    constructor
    · intro e
      have : its = [] := by simpa using e
      rw [this] at hle
      exact List.eq_nil_of_length_eq_zero hle.symm
    · intro e
      rw [e] at hle
      have : its = [] := List.eq_nil_of_length_eq_zero hle
      simp [this]
  refine wpAny_binaryOp_repeat_ref (T := "tuple") (U := "int") (by decide) ⟨_, ho, rfl⟩ (fun s' => typeIs_int s' k t) noFill_tuple_mul F.fills_int_mul F.slot_int_rmul repeat_tuple F.slot_int_index.lookup
    (call_meets F.slot_int_rmul (typeIs_int s k t) F.entry_int_rmul (F.args_int_rmul_2 _ _) (int_rmul_tuple k t l its.toArray n dd sl) ⟨ho, rfl, ⟨_, ho, rfl⟩, ?_⟩)
  by_cases hw : xs = [] ∨ k = 1
  · have c1 : (its.toArray.isEmpty || k == 1) = true := by
      rcases hw with e | e
      · rw [emp.mpr e]; rfl
      · rw [e]; simp
    exact call_meets F.slot_tuple_mul ⟨_, ho, rfl⟩ F.entry_tuple_mul (F.args_tuple_mul_2 _ _) (tuple_mulS l its.toArray n dd sl k t c0 c1) ⟨ho, ⟨.ref l, H, I, rfl, q1 hw⟩⟩
  · have hne : ¬ its.toArray.isEmpty = true := fun e => hw (.inl (emp.mp e))
    have hn1 : ¬ k = 1 := fun e => hw (.inr e)
    have he : its.toArray.isEmpty = false := by
      cases q : its.toArray.isEmpty with
      | true => exact absurd q hne
      | false => rfl
    have c1 : (its.toArray.isEmpty || k == 1) = false := by
      rw [he, Bool.false_or]
      exact beq_eq_false_iff_ne.mpr hn1
    have fin : ∀ ys : Array Value, ys = (List.replicate k.toNat its).flatten.toArray → EP X pins σ Q (.ref s.heap.objs.size) { s with heap := s.heap.push { cls := .type "tuple", data := .seq ys }, toks := s.toks } := fun ys e => by
      subst e
      refine ⟨.ref s.heap.objs.size, _, I.laid (t' := s.toks) (o := .tup (List.replicate k.toNat xs).flatten) (fun b ob q => Heap.get?_push_of_some _ q) (Nat.le_refl _) ?_, rfl, q2 hw _ (I.hok.fresh (Nat.le_refl _))⟩
      exact ⟨by rw [PyProof.Rows.lm_len_rep_flat, sizeLine_eq, Nat.mul_comm]; omega, _, r.rep k.toNat, IsTup.new _ _⟩
    by_cases hk : k ≤ 0
    · have c2 : (decide (k ≤ 0) || its.toArray.isEmpty) = true := by rw [decide_eq_true hk]; rfl
      refine call_meets F.slot_tuple_mul ⟨_, ho, rfl⟩ F.entry_tuple_mul (F.args_tuple_mul_2 _ _) (tuple_mul0 l its.toArray n dd sl k t c0 c1 c2) ⟨ho, fin #[] ?_⟩
      rw [show k.toNat = 0 by omega]
      rfl
    · have c2 : (decide (k ≤ 0) || its.toArray.isEmpty) = false := by rw [he, Bool.or_false]; exact decide_eq_false hk
      have hp : ((its.toArray.size : Nat) : Int) * k ≤ 1000000 := by
        rw [hsz0]
        have e : k = (k.toNat : Int) := by omega
        rw [e, ← Int.natCast_mul]
        omega
      have c4 : Builtin.Tuple.tupleTooMany (((its.toArray.size : Nat) : Int) * k) = false := by
        unfold Builtin.Tuple.tupleTooMany
        rw [sizeLine_eq]
        exact decide_eq_false (by omega)
      have flen : (List.replicate k.toNat its).flatten.length ≤ sizeLine := by
        rw [PyProof.Rows.lm_len_rep_flat, hle, sizeLine_eq, Nat.mul_comm]
        omega
      refine call_meets F.slot_tuple_mul ⟨_, ho, rfl⟩ F.entry_tuple_mul (F.args_tuple_mul_2 _ _) (tuple_mulW l its.toArray n dd sl k t c0 c1 c2 (by omega) c4 (by rw [size_rep, List.size_toArray]; exact flen)) ⟨ho, ?_⟩
      exact fin _ (size_rep _ _)
end Vl

namespace Vl
open PySem PySem.Spec PyProof.Rows L2

/-! ### * -/
def rep (k : Int) (l : List D) : List D := (List.replicate k.toNat l).flatten
abbrev rMulV (K : PySem.W.Frag) : R2 := fun x y H Q => (rI CMulV fun i j => .int (i * j)) x y H Q ∨ (rRepA K x y H Q ∨ rRep x y H Q)
theorem op_mulA {X : Cx} : OpR X (binaryOp .Mult) (rMulV X.K) := op_mulV.or (op_repA.or op_rep)
def repOk (n : Nat) (k : Int) : Bool := decide (-1000000 ≤ k) && decide (k ≤ 1000000) && decide (n * k.toNat ≤ 100000)
def gMul (d e : D) : Option D := match d, e with
  | .int i, .int j => if cMul i j = true then some (.int (i * j)) else none
  | .tup a, .int k => if (repOk a.length k && D.noOwnL a) = true then some (.tup (rep k a)) else none
  | .lst _ a, .int k => if (repOk a.length k && D.noOwnL a) = true then some (.lst true (rep k a)) else none
  | _, _ => none
section
variable {K : PySem.W.Frag} {Z Z' : Addr → Prop} {H H' : Hp}
theorem Rs.rep {ds : List D} {vs : List V} (rs : Rs K Z H ds vs []) : ∀ n : Nat, Rs K Z H (List.replicate n ds).flatten (List.replicate n vs).flatten []
  | 0 => .nil
  | n + 1 => by
    rw [List.replicate_succ, List.replicate_succ, List.flatten_cons, List.flatten_cons]
    exact rs.app (rs.rep n)
theorem repOk_of {n : Nat} {k : Int} (h : repOk n k = true) : -1000000 ≤ k ∧ k ≤ 1000000 ∧ n * k.toNat ≤ 100000 := by
  unfold repOk at h
  rw [Bool.and_eq_true, Bool.and_eq_true] at h
  exact ⟨of_decide_eq_true h.1.1, of_decide_eq_true h.1.2, of_decide_eq_true h.2⟩
theorem os_mul : OpS K (rMulV K) gMul := fun Z H d1 d2 v1 v2 F1 F2 d Q r1 r2 hg q => by
  unfold gMul at hg
  split at hg
  · split at hg
    · rename_i h
      cases hg
      exact .inl ⟨_, _, r1.int_inv, r2.int_inv, cMul_ok h, same_val (.int _) q⟩
    · cases hg
  · split at hg
    · rename_i a k h
      cases hg
      rw [Bool.and_eq_true] at h
      obtain ⟨h1, h2, h3⟩ := repOk_of h.1
      obtain ⟨l, vs, rfl, hl, rs⟩ := r1.tup_tr
      have rs := rs.nil_of h.2
      have hlen := rs.length
      refine .inr (.inl ⟨l, k, vs, rfl, r2.int_inv, SqT.of hl, h1, h2, by rw [← hlen]; omega, fun e => ?_, fun e p hp => new_tup hp (rs.rep k.toNat) q⟩)
      have e2 : Vl.rep k a = a := by
        unfold Vl.rep
        rcases e with e | e
        · rw [e] at hlen
          rw [List.eq_nil_of_length_eq_zero hlen]
          simp
        · subst e
          simp
      rw [e2] at q
      exact same_val (.tup hl rs) q
    · cases hg
  · split at hg
    · rename_i a k h
      cases hg
      rw [Bool.and_eq_true] at h
      obtain ⟨h1, h2, h3⟩ := repOk_of h.1
      obtain ⟨l, vs, G, rfl, hl, rs⟩ := r1.lst_tr
      have rs := rs.nil_of h.2
      have hlen := rs.length
      exact .inr (.inr ⟨l, k, vs, rfl, r2.int_inv, hl, by omega, by omega, by rw [← hlen, sizeLine_eq]; omega, fun p hp => new_list hp (rs.rep k.toNat) q⟩)
    · cases hg
  · cases hg

/-! ### subscripts -/
def gIx (d e : D) : Option D := match d, e with
  | .tup l, .int i => L2.atI l i
  | .lst _ l, .int i => L2.atI l i
  | .scr l, .int i => L2.atI l i
  | .str s, .int i => if szOk s.length = true then (L2.atI s.cps.toList i).map fun c => .str ⟨#[c]⟩ else none
  | _, _ => none
theorem Rs.atI {ds : List D} {vs : List V} {F : List Addr} {i : Int} {d : D} (rs : Rs K Z H ds vs F) (h : L2.atI ds i = some d) : ∃ v G, L2.atI vs i = some v ∧ R K Z H d v G ∧ ∀ a ∈ G, a ∈ F := by
  unfold L2.atI at h
  obtain ⟨j, h1, h2⟩ := Option.bind_eq_some_iff.mp h
  obtain ⟨v, G, h3, h4, h5⟩ := rs.get h2
  refine ⟨v, G, ?_, h4, h5⟩
  unfold L2.atI
  rw [← rs.length, h1]
  exact h3
theorem os_ix : OpW K (rIx K) gIx := fun Z H d1 d2 v1 v2 F1 F2 d Q r1 r2 hg q => by
  unfold gIx at hg
  split at hg
  · rename_i l i
    obtain ⟨a, vs, rfl, ha, rs⟩ := r1.tup_inv
    obtain ⟨v, G, h1, h2, h3⟩ := rs.atI hg
    exact .inr (.inl ⟨a, vs, i, v, rfl, r2.int_inv, ha, h1, q v H G (Keep.refl _ _) h2 h3⟩)
  · rename_i o l i
    obtain ⟨a, vs, G0, rfl, ha, rs, hs⟩ := r1.lst_at
    obtain ⟨v, G, h1, h2, h3⟩ := rs.atI hg
    exact .inl ⟨a, vs, i, v, rfl, r2.int_inv, ha, h1, q v H G (Keep.refl _ _) h2 fun b hb => hs b (h3 b hb)⟩
  · rename_i l i
    obtain ⟨a, vs, rfl, rfl, ha, rs⟩ := r1.scr_at
    obtain ⟨v, G, h1, h2, h3⟩ := rs.atI hg
    exact .inl ⟨a, vs, i, v, rfl, r2.int_inv, ha, h1, q v H G (Keep.refl _ _) h2 fun b hb => h3 b hb⟩
  · rename_i s i
    split at hg
    · rename_i hz
      rw [Option.map_eq_some_iff] at hg
      obtain ⟨c, hc, rfl⟩ := hg
      exact .inr (.inr ⟨s, i, c, r1.str_inv, r2.int_inv, sz_of hz, hc, q _ H [] (Keep.refl _ _) (.str _) fun _ h => (by cases h)⟩)
    · cases hg
  · cases hg
end
theorem pev_ixs {X : Cx} {T1 T2 O1 O2 : List Nat} {x1 x2 : Bool} {a b : Expr} {fa fb : M D} {pos : Pos} (ha : PEV X T1 O1 x1 a fa) (hb : PEV X T2 O2 x2 b fb) (hp : PlainIx b := by intro _ _; rfl) : PEV X (T1 ++ T2) O1 false (.Subscript a b pos) (fOp O1 T2 gIx fa fb) :=
  pev_ix (hr := ix_seq) os_ix ha hb hp

/-! ### slices -/
def tVO (K : PySem.W.Frag) (T : List Nat) (f : M (Option Int)) : TO := fun σ H Q => ∃ Z ρ Fs o ρ', Rel K Z ρ σ H Fs ∧ f ρ = some (o, ρ') ∧
  ∀ H' Z' Fs', Rel K Z' ρ' σ H' Fs' → Frm T Z ρ Fs H Z' ρ' Fs' H' → Q o H'
abbrev POV (X : Cx) (T : List Nat) (e : Option Expr) (f : M (Option Int)) : Prop := PO X e (tVO X.K T f)
theorem PO.imp {X : Cx} {e : Option Expr} {t t' : TO} (h : PO X e t) (i : ∀ σ H Q, t' σ H Q → t σ H Q) : PO X e t' := ⟨fun pins s σ H Q I q => h.run pins s σ H Q I (i σ H Q q)⟩
def oNone : M (Option Int) := fun ρ => some (none, ρ)
def oSome (f : M D) : M (Option Int) := fun ρ => (f ρ).bind fun p => match p.1 with
  | .int i => some (some i, p.2)
  | _ => none
def cutL (xs : List D) (lo hi : Option Int) : List D := (xs.drop (HT.sIx xs.length 0 lo)).take (HT.sIx xs.length xs.length hi - HT.sIx xs.length 0 lo)
def gSl (d : D) (lo hi : Option Int) : Option D := match d with
  | .tup l => if D.noOwnL l = true then some (.tup (cutL l lo hi)) else none
  | .lst _ l => if D.noOwnL l = true then some (.lst true (cutL l lo hi)) else none
  | .scr l => if D.noOwnL l = true then some (.lst true (cutL l lo hi)) else none
  | .str s => if szOk s.length = true then some (.str (cutS s lo hi)) else none
  | _ => none
def fSl (O1 T2 : List Nat) (f : M D) (fl fh : M (Option Int)) : M D := fun ρ => (f ρ).bind fun p => (fl p.2).bind fun l => (fh l.2).bind fun h => if safe O1 T2 p.1 = true then (gSl p.1 l.1 h.1).bind fun d => some (d, h.2) else none
section
variable {X : Cx} {T T1 T2 O O1 : List Nat} {x : Bool} {e : Expr} {lo hi : Option Expr} {f : M D} {fl fh : M (Option Int)} {pos p2 : Pos}
theorem pov_none : POV X [] none oNone := by
  refine PO.imp po_none fun σ H Q h => ?_
  obtain ⟨Z, ρ, Fs, o, ρ', rel, hf, q⟩ := h
  cases hf
  exact q H Z Fs rel (Frm.refl _)
theorem pov_some (h : PEV X T O x e f) : POV X T (some e) (oSome f) := by
  refine PO.imp (po_some h) fun σ H Q h => ?_
  obtain ⟨Z, ρ, Fs, o, ρ', rel, hf, q⟩ := h
  unfold oSome at hf
  obtain ⟨⟨d, ρ1⟩, h1, hf⟩ := Option.bind_eq_some_iff.mp hf
  split at hf
  · rename_i i e
    cases hf
    have e : d = .int i := e
    subst e
    exact ⟨Z, ρ, Fs, _, _, rel, h1, fun v H' Z' Fs' F rel' f' w c => ⟨i, w.r.int_inv, q H' Z' Fs' rel' f'⟩⟩
  · cases hf
abbrev rSlV (K : PySem.W.Frag) : V → Option Int → Option Int → Hp → VK → Prop := fun x lo hi H Q => rSlA K x lo hi H Q ∨ (rSlL K x lo hi H Q ∨ rSlS x lo hi H Q)
theorem sl_V : SlR X (rSlV X.K) := sl_tupA.or (sl_list.or sl_str)
theorem Rs.drop0 {K : PySem.W.Frag} {Z : Addr → Prop} {H : Hp} : ∀ {ds : List D} {vs : List V} (n : Nat), Rs K Z H ds vs [] → Rs K Z H (ds.drop n) (vs.drop n) []
  | _, _, 0, r => r
  | [], [], n + 1, r => r
  | d :: ds, [], n + 1, r => nomatch r
  | [], v :: vs, n + 1, r => nomatch r
  | d :: ds, v :: vs, n + 1, r => by
    obtain ⟨v', ws, F1, F2, e1, e2, r1, r2⟩ := r.uncons
    cases e1
    obtain ⟨e3, e4⟩ := app_eq_nil e2.symm
    subst e3 e4
    exact Rs.drop0 n r2
theorem Rs.take0 {K : PySem.W.Frag} {Z : Addr → Prop} {H : Hp} : ∀ {ds : List D} {vs : List V} (n : Nat), Rs K Z H ds vs [] → Rs K Z H (ds.take n) (vs.take n) []
  | _, _, 0, r => .nil
  | [], [], n + 1, r => .nil
  | d :: ds, [], n + 1, r => nomatch r
  | [], v :: vs, n + 1, r => nomatch r
  | d :: ds, v :: vs, n + 1, r => by
    obtain ⟨v', ws, F1, F2, e1, e2, r1, r2⟩ := r.uncons
    cases e1
    obtain ⟨e3, e4⟩ := app_eq_nil e2.symm
    subst e3 e4
    exact .cons0 r1 (Rs.take0 n r2)
theorem Rs.cut {K : PySem.W.Frag} {Z : Addr → Prop} {H : Hp} {ds : List D} {vs : List V} (r : Rs K Z H ds vs []) (lo hi : Option Int) : Rs K Z H (cutL ds lo hi) (cutV vs lo hi) [] := by
  unfold cutL cutV
  rw [r.length]
  exact (r.drop0 _).take0 _
theorem cut_whole {xs : List D} {lo hi : Option Int} (h : HT.sIx xs.length 0 lo = 0 ∧ HT.sIx xs.length xs.length hi = xs.length) : cutL xs lo hi = xs := by
  unfold cutL
  rw [h.1, h.2, List.drop_zero, Nat.sub_zero, List.take_length]
theorem sl_data {K : PySem.W.Frag} {Z : Addr → Prop} {H : Hp} {d d' : D} {v : V} {F : List Addr} {lo hi : Option Int} {Q : VK} (r1 : R K Z H d v F) (hg : gSl d lo hi = some d') (q : ∀ v H' F, Keep M0 H H' → R K Z H' d' v F → F.Nodup → (∀ a ∈ F, H a = none) → Q v H') : rSlV K v lo hi H Q := by
  unfold gSl at hg
  split at hg
  · split at hg
    · rename_i l hn
      cases hg
      obtain ⟨a, vs, rfl, ha, rs⟩ := r1.tup_tr
      have rs := rs.nil_of hn
      refine .inl ⟨a, vs, rfl, SqT.of ha, fun hw => ?_, fun _ p hp => new_tup hp (rs.cut lo hi) q⟩
      rw [← rs.length] at hw
      rw [cut_whole hw] at q
      exact same_val (.tup ha rs) q
    · cases hg
  · split at hg
    · rename_i o l hn
      cases hg
      obtain ⟨a, vs, G, rfl, ha, rs, _⟩ := r1.lst_at
      exact .inr (.inl ⟨a, vs, rfl, ha, fun p hp => new_list hp ((rs.nil_of hn).cut lo hi) q⟩)
    · cases hg
  · split at hg
    · rename_i l hn
      cases hg
      obtain ⟨a, vs, rfl, rfl, ha, rs⟩ := r1.scr_at
      exact .inr (.inl ⟨a, vs, rfl, ha, fun p hp => new_list hp (rs.cut lo hi) q⟩)
    · cases hg
  · split at hg
    · rename_i s hz
      cases hg
      exact .inr (.inr ⟨s, r1.str_inv, sz_of hz, same_val (.str _) q⟩)
    · cases hg
  · cases hg
theorem pev_slice (he : PEV X T O x e f) (hl : POV X T1 lo fl) (hh : POV X T2 hi fh) : PEV X (T ++ (T1 ++ T2)) [] true (.Subscript e (.Slice lo hi none p2) pos) (fSl O (T1 ++ T2) f fl fh) := by
  refine PE.imp (pe_slice sl_V he hl hh) fun σ H Q h => ?_
  obtain ⟨Z, ρ, Fs, d, ρ', rel, hf, q⟩ := h
  unfold fSl at hf
  obtain ⟨⟨d1, ρ1⟩, h1, hf⟩ := Option.bind_eq_some_iff.mp hf
  obtain ⟨⟨l, ρ2⟩, h2, hf⟩ := Option.bind_eq_some_iff.mp hf
  obtain ⟨⟨u, ρ3⟩, h3, hf⟩ := Option.bind_eq_some_iff.mp hf
  split at hf
  · rename_i hsf
    obtain ⟨d', h4, hf⟩ := Option.bind_eq_some_iff.mp hf
    cases hf
    refine ⟨Z, ρ, Fs, d1, ρ1, rel, h1, fun v1 H1 Z1 Fs1 F1 rel1 f1 w1 c1 => ⟨Z1, ρ1, Fs1, l, ρ2, rel1, h2, fun H2 Z2 Fs2 rel2 f2 => ⟨Z2, ρ2, Fs2, u, ρ3, rel2, h3, fun H3 Z3 Fs3 rel3 f3 => ?_⟩⟩⟩
    have f23 := f2.trans f3
    have w3 := w1.keep rel1 f23 hsf
    refine sl_data w3.r h4 fun v H' F k r nd nw => ?_
    have ff := f1.trans f23
    have fz := ff.trans (Frm.pureT [] k)
    rw [List.append_nil] at fz
    exact q v H' Z3 Fs3 F (rel3.keep0 k) fz (Val.new rel3 r nd nw) (Cf.new ff.keep nw)
  · cases hf
end

/-! ### built-ins -/
def gLen : List D → Option D
  | [.tup l] => some (.int l.length)
  | [.lst _ l] => some (.int l.length)
  | [.scr l] => some (.int l.length)
  | [.str s] => if szOk s.length = true then some (.int s.length) else none
  | [.dct true _ l] => some (.int l.length)
  | _ => none
section
variable {X : Cx} {K : PySem.W.Frag} {Z : Addr → Prop} {H : Hp}
abbrev rLenV (K : PySem.W.Frag) : List V → Hp → VK → Prop := fun xs H Q => (∃ p ys, xs = [.ref p] ∧ (SqL K H p ys ∨ SqT K H p ys) ∧ Q (.int ys.length) H) ∨ ((∃ z, xs = [.str z] ∧ z.length ≤ sizeLine ∧ Q (.int z.length) H) ∨
  ((∃ a kvs, xs = [V.ref a] ∧ H a = some (.dK kvs) ∧ Q (.int kvs.length) H) ∨ rLenT xs H Q))
theorem call_lenV : CallR X (.builtin "len") (rLenV X.K) := call_len_seq.or (call_len_str.or (call_lenD.or call_len_dT))
theorem Rs.one_inv {d : D} {vs : List V} {F : List Addr} (rs : Rs K Z H [d] vs F) : ∃ v, vs = [v] ∧ R K Z H d v F := by
  obtain ⟨v, ws, F1, F2, rfl, rfl, r, rs⟩ := rs.uncons
  cases rs
  rw [List.append_nil]
  exact ⟨v, rfl, r⟩
theorem Rs.two_inv {d e : D} {vs : List V} {F : List Addr} (rs : Rs K Z H [d, e] vs F) : ∃ v w F1 F2, vs = [v, w] ∧ R K Z H d v F1 ∧ R K Z H e w F2 := by
  obtain ⟨v, ws, F1, F2, rfl, rfl, r, rs⟩ := rs.uncons
  obtain ⟨w, rfl, r2⟩ := rs.one_inv
  exact ⟨v, w, F1, F2, rfl, r, r2⟩
theorem ClS.here {r : List V → Hp → VK → Prop} {g : List D → Option D} (h : ∀ (Z : Addr → Prop) (H : Hp) (ds : List D) (vs : List V) (F1 : List Addr) (d : D) (Q : VK), Rs K Z H ds vs F1 → g ds = some d → (∀ v, R K Z H d v [] → Q v H) → r vs H Q) : ClS K r g :=
  fun Z H ds vs F1 d Q rs hg q => h Z H ds vs F1 d Q rs hg fun v rv => same_val rv q
theorem R.dct_own {t : Bool} {kvs : List (D × D)} {v : V} {F : List Addr} (r : R K Z H (.dct true t kvs) v F) : ∃ a vs G, v = .ref a ∧ F = a :: G ∧ DcAt H a t (kvs.map (·.1)) vs ∧ Rs K Z H (kvs.map (·.2)) vs G := by
  cases r with
  | dow h rs => exact ⟨_, _, _, rfl, rfl, h, rs⟩
theorem cs_len : ClS K (rLenV K) gLen := ClS.here fun Z H ds vs F1 d Q rs hg q => by
  unfold gLen at hg
  split at hg
  · cases hg
    obtain ⟨v, rfl, r⟩ := rs.one_inv
    obtain ⟨a, ws, rfl, ha, r2⟩ := r.tup_inv
    exact .inl ⟨a, ws, rfl, .inr ha, by rw [← r2.length]; exact q _ (.int _)⟩
  · cases hg
    obtain ⟨v, rfl, r⟩ := rs.one_inv
    obtain ⟨a, ws, G, rfl, ha, r2, _⟩ := r.lst_at
    exact .inl ⟨a, ws, rfl, .inl ha, by rw [← r2.length]; exact q _ (.int _)⟩
  · cases hg
    obtain ⟨v, rfl, r⟩ := rs.one_inv
    obtain ⟨a, ws, rfl, _, ha, r2⟩ := r.scr_at
    exact .inl ⟨a, ws, rfl, .inl ha, by rw [← r2.length]; exact q _ (.int _)⟩
  · split at hg
    · rename_i hz
      cases hg
      obtain ⟨v, rfl, r⟩ := rs.one_inv
      rw [r.str_inv]
      exact .inr (.inl ⟨_, rfl, sz_of hz, q _ (.int _)⟩)
    · cases hg
  · cases hg
    rename_i t l
    obtain ⟨v, rfl, r⟩ := rs.one_inv
    obtain ⟨a, ws, G, rfl, rfl, ha, r2⟩ := r.dct_own
    obtain ⟨o, h, ho⟩ := ha
    cases t with
    | false =>
      obtain ⟨kvs, e1, e2, e3⟩ := ho
      subst e1
      have hl : kvs.length = l.length := by have := congrArg List.length e2; simpa using this.symm
      exact .inr (.inr (.inl ⟨a, kvs, rfl, h, by rw [hl]; exact q _ (.int _)⟩))
    | true =>
      obtain ⟨kvs, e1, e2, e3⟩ := ho
      subst e1
      have hl : kvs.length = l.length := by have := congrArg List.length e2; simpa using this.symm
      exact .inr (.inr (.inr ⟨a, kvs, rfl, h, by rw [hl]; exact q _ (.int _)⟩))
  · cases hg
def gAbs : List D → Option D
  | [.int i] => some (.int (if i < 0 then -i else i))
  | _ => none
theorem cs_abs : ClS K (fun xs H Q => ∃ i, xs = [.int i] ∧ Q (.int (if i < 0 then -i else i)) H) gAbs := ClS.here fun Z H ds vs F1 d Q rs hg q => by
  unfold gAbs at hg
  split at hg
  · cases hg
    exact ⟨_, rs.ints1, q _ (.int _)⟩
  · cases hg
def gMax2 : List D → Option D
  | [.int i, .int j] => some (.int (if j > i then j else i))
  | _ => none
def gMin2 : List D → Option D
  | [.int i, .int j] => some (.int (if j < i then j else i))
  | _ => none
theorem cs_max2 : ClS K (fun xs H Q => ∃ i j, xs = [.int i, .int j] ∧ Q (.int (if j > i then j else i)) H) gMax2 := ClS.here fun Z H ds vs F1 d Q rs hg q => by
  unfold gMax2 at hg
  split at hg
  · cases hg
    exact ⟨_, _, rs.ints2, q _ (.int _)⟩
  · cases hg
theorem cs_min2 : ClS K (fun xs H Q => ∃ i j, xs = [.int i, .int j] ∧ Q (.int (if j < i then j else i)) H) gMin2 := ClS.here fun Z H ds vs F1 d Q rs hg q => by
  unfold gMin2 at hg
  split at hg
  · cases hg
    exact ⟨_, _, rs.ints2, q _ (.int _)⟩
  · cases hg
def gInt : List D → Option D
  | [.int i] => some (.int i)
  | [.bl b] => some (.int (if b then 1 else 0))
  | _ => none
theorem cs_int : ClS K (fun xs H Q => (∃ i, xs = [.int i] ∧ Q (.int i) H) ∨ ∃ k, xs = [.bl k] ∧ Q (.int (if k then 1 else 0)) H) gInt := ClS.here fun Z H ds vs F1 d Q rs hg q => by
  unfold gInt at hg
  split at hg
  · cases hg
    exact .inl ⟨_, rs.ints1, q _ (.int _)⟩
  · cases hg
    obtain ⟨v, rfl, r⟩ := rs.one_inv
    exact .inr ⟨_, by rw [r.bl_inv], q _ (.int _)⟩
  · cases hg
/-- the ints of a row -/
def ints? : List D → Option (List Int)
  | [] => some []
  | .int i :: r => (ints? r).bind fun l => some (i :: l)
  | _ => none
theorem ints?_of : ∀ {l : List D} {ns : List Int}, ints? l = some ns → l = ns.map D.int
  | [], ns, h => by cases h; rfl
  | .int i :: r, ns, h => by
    obtain ⟨l, h1, h2⟩ := Option.bind_eq_some_iff.mp h
    cases h2
    rw [ints?_of h1]
    rfl
  | .non :: _, _, h => nomatch h
  | .bl _ :: _, _, h => nomatch h
  | .str _ :: _, _, h => nomatch h
  | .tup _ :: _, _, h => nomatch h
  | .lst _ _ :: _, _, h => nomatch h
  | .dct _ _ _ :: _, _, h => nomatch h
  | .scr _ :: _, _, h => nomatch h
theorem ints?_map : ∀ ns : List Int, ints? (ns.map D.int) = some ns
  | [] => rfl
  | n :: r => by
    show (ints? (r.map D.int)).bind _ = _
    rw [ints?_map r]
    rfl
theorem Rs.intsV : ∀ {ns : List Int} {vs : List V} {F : List Addr}, Rs K Z H (ns.map D.int) vs F → vs = ns.map V.int
  | [], _, _, .nil => rfl
  | n :: r, _, _, rs => by
    obtain ⟨v, ws, F1, F2, rfl, rfl, r1, rs⟩ := Rs.uncons rs
    rw [r1.int_inv, rs.intsV]
    rfl
def seqOf : D → Option (List D)
  | .lst _ l => some l
  | .scr l => some l
  | _ => none
theorem seqOf_at {d : D} {l : List D} {v : V} {F : List Addr} (h : seqOf d = some l) (r : R K Z H d v F) : ∃ a vs G, v = .ref a ∧ SqL K H a vs ∧ Rs K Z H l vs G ∧ ∀ b ∈ G, b ∈ F := by
  unfold seqOf at h
  split at h
  · cases h
    exact r.lst_at
  · cases h
    obtain ⟨a, vs, rfl, rfl, h1, h2⟩ := r.scr_at
    exact ⟨a, vs, [], rfl, h1, h2, fun _ h => h⟩
  · cases h
def gSum : List D → Option D
  | [d] => (seqOf d).bind fun l => (ints? l).bind fun ns => some (.int ns.sum)
  | _ => none
theorem cs_sum : ClS K (rSum K) gSum := ClS.here fun Z H ds vs F1 d Q rs hg q => by
  unfold gSum at hg
  split at hg
  · obtain ⟨l, h1, hg⟩ := Option.bind_eq_some_iff.mp hg
    obtain ⟨ns, h2, hg⟩ := Option.bind_eq_some_iff.mp hg
    cases hg
    obtain ⟨v, rfl, r⟩ := rs.one_inv
    obtain ⟨a, ws, G, rfl, ha, r2, _⟩ := seqOf_at h1 r
    rw [ints?_of h2] at r2
    rw [r2.intsV] at ha
    exact ⟨a, ns, rfl, ha, q _ (.int _)⟩
  · cases hg
def bls? : List D → Option (List Bool)
  | [] => some []
  | .bl i :: r => (bls? r).bind fun l => some (i :: l)
  | _ => none
theorem bls?_of : ∀ {l : List D} {ns : List Bool}, bls? l = some ns → l = ns.map D.bl
  | [], ns, h => by cases h; rfl
  | .bl i :: r, ns, h => by
    obtain ⟨l, h1, h2⟩ := Option.bind_eq_some_iff.mp h
    cases h2
    rw [bls?_of h1]
    rfl
  | .non :: _, _, h => nomatch h
  | .int _ :: _, _, h => nomatch h
  | .str _ :: _, _, h => nomatch h
  | .tup _ :: _, _, h => nomatch h
  | .lst _ _ :: _, _, h => nomatch h
  | .dct _ _ _ :: _, _, h => nomatch h
  | .scr _ :: _, _, h => nomatch h
theorem bls?_map : ∀ ns : List Bool, bls? (ns.map D.bl) = some ns
  | [] => rfl
  | n :: r => by
    show (bls? (r.map D.bl)).bind _ = _
    rw [bls?_map r]
    rfl
theorem Rs.blsV : ∀ {ns : List Bool} {vs : List V} {F : List Addr}, Rs K Z H (ns.map D.bl) vs F → vs = ns.map V.bl
  | [], _, _, .nil => rfl
  | n :: r, _, _, rs => by
    obtain ⟨v, ws, F1, F2, rfl, rfl, r1, rs⟩ := Rs.uncons rs
    rw [r1.bl_inv, rs.blsV]
    rfl
def gAll : List D → Option D
  | [d] => (seqOf d).bind fun l => (bls? l).bind fun ns => some (.bl (ns.all id))
  | _ => none
def gAny : List D → Option D
  | [d] => (seqOf d).bind fun l => (bls? l).bind fun ns => some (.bl (ns.any id))
  | _ => none
/-- a new list of the items of a list, a tuple -/
def gList : List D → Option D
  | [.tup l] => if D.noOwnL l = true then some (.lst true l) else none
  | [.lst _ l] => if D.noOwnL l = true then some (.lst true l) else none
  | [.scr l] => if D.noOwnL l = true then some (.lst true l) else none
  | _ => none
theorem cs_list : ClS K (fun xs H Q => ∃ p ys, xs = [.ref p] ∧ (SqL K H p ys ∨ SqT K H p ys) ∧ ∀ l, H l = none → Q (.ref l) (upd H l (.lst ys))) gList := fun Z H ds vs F1 d Q rs hg q => by
  unfold gList at hg
  split at hg
  · split at hg
    · rename_i hn
      cases hg
      obtain ⟨v, rfl, r⟩ := rs.one_inv
      obtain ⟨a, ws, rfl, ha, r2⟩ := r.tup_inv
      exact ⟨a, ws, rfl, .inr ha, fun p hp => new_list hp (r2.nil_of hn) q⟩
    · cases hg
  · split at hg
    · rename_i hn
      cases hg
      obtain ⟨v, rfl, r⟩ := rs.one_inv
      obtain ⟨a, ws, G, rfl, ha, r2, _⟩ := r.lst_at
      exact ⟨a, ws, rfl, .inl ha, fun p hp => new_list hp (r2.nil_of hn) q⟩
    · cases hg
  · split at hg
    · rename_i hn
      cases hg
      obtain ⟨v, rfl, r⟩ := rs.one_inv
      obtain ⟨a, ws, rfl, rfl, ha, r2⟩ := r.scr_at
      exact ⟨a, ws, rfl, .inl ha, fun p hp => new_list hp r2 q⟩
    · cases hg
  · cases hg
def gTuple : List D → Option D
  | [.tup l] => if D.noOwnL l = true then some (.tup l) else none
  | [.lst _ l] => if D.noOwnL l = true then some (.tup l) else none
  | [.scr l] => if D.noOwnL l = true then some (.tup l) else none
  | _ => none
theorem cs_tuple : ClS K (fun xs H Q => ∃ p ys, xs = [.ref p] ∧ ((SqL K H p ys ∧ ∀ l, H l = none → Q (.ref l) (upd H l (.tup ys))) ∨ (SqT K H p ys ∧ Q (.ref p) H))) gTuple := fun Z H ds vs F1 d Q rs hg q => by
  unfold gTuple at hg
  split at hg
  · split at hg
    · rename_i hn
      cases hg
      obtain ⟨v, rfl, r⟩ := rs.one_inv
      have e := r.no (show (D.tup _).noOwn = true from hn)
      subst e
      obtain ⟨a, ws, rfl, ha, r2⟩ := r.tup_inv
      exact ⟨a, ws, rfl, .inr ⟨ha, same_val r q⟩⟩
    · cases hg
  · split at hg
    · rename_i hn
      cases hg
      obtain ⟨v, rfl, r⟩ := rs.one_inv
      obtain ⟨a, ws, G, rfl, ha, r2, _⟩ := r.lst_at
      exact ⟨a, ws, rfl, .inl ⟨ha, fun p hp => new_tup hp (r2.nil_of hn) q⟩⟩
    · cases hg
  · split at hg
    · rename_i hn
      cases hg
      obtain ⟨v, rfl, r⟩ := rs.one_inv
      obtain ⟨a, ws, rfl, rfl, ha, r2⟩ := r.scr_at
      exact ⟨a, ws, rfl, .inl ⟨ha, fun p hp => new_tup hp r2 q⟩⟩
    · cases hg
  · cases hg
end
end Vl

namespace Vl
open PySem PySem.Spec PyProof.Rows L2

section
variable {X : Cx} {K : PySem.W.Frag} {Z : Addr → Prop} {H : Hp}
theorem cs_all : ClS K (rAll K) gAll := ClS.here fun Z H ds vs F1 d Q rs hg q => by
  unfold gAll at hg
  split at hg
  · obtain ⟨l, h1, hg⟩ := Option.bind_eq_some_iff.mp hg
    obtain ⟨ns, h2, hg⟩ := Option.bind_eq_some_iff.mp hg
    cases hg
    obtain ⟨v, rfl, r⟩ := rs.one_inv
    obtain ⟨a, ws, G, rfl, ha, r2, _⟩ := seqOf_at h1 r
    rw [bls?_of h2] at r2
    rw [r2.blsV] at ha
    exact ⟨a, ns, rfl, ha, q _ (.bl _)⟩
  · cases hg
theorem cs_any : ClS K (rAny K) gAny := ClS.here fun Z H ds vs F1 d Q rs hg q => by
  unfold gAny at hg
  split at hg
  · obtain ⟨l, h1, hg⟩ := Option.bind_eq_some_iff.mp hg
    obtain ⟨ns, h2, hg⟩ := Option.bind_eq_some_iff.mp hg
    cases hg
    obtain ⟨v, rfl, r⟩ := rs.one_inv
    obtain ⟨a, ws, G, rfl, ha, r2, _⟩ := seqOf_at h1 r
    rw [bls?_of h2] at r2
    rw [r2.blsV] at ha
    exact ⟨a, ns, rfl, ha, q _ (.bl _)⟩
  · cases hg
def minI : List Int → Option Int
  | [] => none
  | n :: r => some (r.foldl min n)
def maxI : List Int → Option Int
  | [] => none
  | n :: r => some (r.foldl max n)
theorem foldl_min : ∀ (r : List Int) (n : Int), (r.foldl min n ∈ n :: r) ∧ ∀ y ∈ n :: r, r.foldl min n ≤ y
  | [], n => ⟨List.mem_cons_self, fun y hy => by simp at hy; subst hy; exact Int.le_refl _⟩
  | m :: r, n => by
    obtain ⟨h1, h2⟩ := foldl_min r (min n m)
    constructor
    · show r.foldl min (min n m) ∈ _
      rcases List.mem_cons.mp h1 with e | h1
      · rw [e]
        by_cases q : n ≤ m
        · rw [Int.min_eq_left q]; simp
        · rw [Int.min_eq_right (by omega)]; simp
      · exact List.mem_cons_of_mem _ (List.mem_cons_of_mem _ h1)
    · intro y hy
      show r.foldl min (min n m) ≤ y
      have h0 := h2 (min n m) List.mem_cons_self
      rcases List.mem_cons.mp hy with e | hy
      · subst e; have := Int.min_le_left y m; omega
      · rcases List.mem_cons.mp hy with e | hy
        · subst e; have := Int.min_le_right n y; omega
        · exact h2 y (List.mem_cons_of_mem _ hy)
theorem foldl_max : ∀ (r : List Int) (n : Int), (r.foldl max n ∈ n :: r) ∧ ∀ y ∈ n :: r, y ≤ r.foldl max n
  | [], n => ⟨List.mem_cons_self, fun y hy => by simp at hy; subst hy; exact Int.le_refl _⟩
  | m :: r, n => by
    obtain ⟨h1, h2⟩ := foldl_max r (max n m)
    constructor
    · show r.foldl max (max n m) ∈ _
      rcases List.mem_cons.mp h1 with e | h1
      · rw [e]
        by_cases q : n ≤ m
        · rw [Int.max_eq_right q]; simp
        · rw [Int.max_eq_left (by omega)]; simp
      · exact List.mem_cons_of_mem _ (List.mem_cons_of_mem _ h1)
    · intro y hy
      show y ≤ r.foldl max (max n m)
      have h0 := h2 (max n m) List.mem_cons_self
      rcases List.mem_cons.mp hy with e | hy
      · subst e; have := Int.le_max_left y m; omega
      · rcases List.mem_cons.mp hy with e | hy
        · subst e; have := Int.le_max_right n y; omega
        · exact h2 y (List.mem_cons_of_mem _ hy)
def gMin1 : List D → Option D
  | [d] => (seqOf d).bind fun l => (ints? l).bind fun ns => (minI ns).bind fun m => some (.int m)
  | _ => none
def gMax1 : List D → Option D
  | [d] => (seqOf d).bind fun l => (ints? l).bind fun ns => (maxI ns).bind fun m => some (.int m)
  | _ => none
theorem cs_min1 : ClS K (rMin K) gMin1 := ClS.here fun Z H ds vs F1 d Q rs hg q => by
  unfold gMin1 at hg
  split at hg
  · obtain ⟨l, h1, hg⟩ := Option.bind_eq_some_iff.mp hg
    obtain ⟨ns, h2, hg⟩ := Option.bind_eq_some_iff.mp hg
    obtain ⟨m, h3, hg⟩ := Option.bind_eq_some_iff.mp hg
    cases hg
    obtain ⟨v, rfl, r⟩ := rs.one_inv
    obtain ⟨a, ws, G, rfl, ha, r2, _⟩ := seqOf_at h1 r
    rw [ints?_of h2] at r2
    rw [r2.intsV] at ha
    cases ns with
    | nil => cases h3
    | cons n ns =>
      cases h3
      obtain ⟨e1, e2⟩ := foldl_min ns n
      refine ⟨a, _, rfl, ha, by simp, fun m hm hl => ?_⟩
      have : m = ns.foldl min n := Int.le_antisymm (hl _ e1) (e2 m hm)
      subst this
      exact q _ (.int _)
  · cases hg
theorem cs_max1 : ClS K (rMax K) gMax1 := ClS.here fun Z H ds vs F1 d Q rs hg q => by
  unfold gMax1 at hg
  split at hg
  · obtain ⟨l, h1, hg⟩ := Option.bind_eq_some_iff.mp hg
    obtain ⟨ns, h2, hg⟩ := Option.bind_eq_some_iff.mp hg
    obtain ⟨m, h3, hg⟩ := Option.bind_eq_some_iff.mp hg
    cases hg
    obtain ⟨v, rfl, r⟩ := rs.one_inv
    obtain ⟨a, ws, G, rfl, ha, r2, _⟩ := seqOf_at h1 r
    rw [ints?_of h2] at r2
    rw [r2.intsV] at ha
    cases ns with
    | nil => cases h3
    | cons n ns =>
      cases h3
      obtain ⟨e1, e2⟩ := foldl_max ns n
      refine ⟨a, _, rfl, ha, by simp, fun m hm hl => ?_⟩
      have : m = ns.foldl max n := Int.le_antisymm (e2 m hm) (hl _ e1)
      subst this
      exact q _ (.int _)
  · cases hg
/-- min, max of two ints or of a list -/
abbrev rMinV (K : PySem.W.Frag) : List V → Hp → VK → Prop := fun xs H Q => (∃ i j, xs = [.int i, .int j] ∧ Q (.int (if j < i then j else i)) H) ∨ rMin K xs H Q
abbrev rMaxV (K : PySem.W.Frag) : List V → Hp → VK → Prop := fun xs H Q => (∃ i j, xs = [.int i, .int j] ∧ Q (.int (if j > i then j else i)) H) ∨ rMax K xs H Q
theorem call_minV (hc : X.calm = true) : CallR X (.builtin "min") (rMinV X.K) := (call_min2 hc).or (cr_min hc)
theorem call_maxV (hc : X.calm = true) : CallR X (.builtin "max") (rMaxV X.K) := (call_max2 hc).or (cr_max hc)
def gMin (ds : List D) : Option D := match ds with
  | [_] => gMin1 ds
  | _ => gMin2 ds
def gMax (ds : List D) : Option D := match ds with
  | [_] => gMax1 ds
  | _ => gMax2 ds
theorem cs_min : ClS K (rMinV K) gMin := fun Z H ds vs F1 d Q rs hg q => by
  unfold gMin at hg
  split at hg
  · exact .inr (cs_min1 Z H _ vs F1 d Q rs hg q)
  · exact .inl (cs_min2 Z H _ vs F1 d Q rs hg q)
theorem cs_max : ClS K (rMaxV K) gMax := fun Z H ds vs F1 d Q rs hg q => by
  unfold gMax at hg
  split at hg
  · exact .inr (cs_max1 Z H _ vs F1 d Q rs hg q)
  · exact .inl (cs_max2 Z H _ vs F1 d Q rs hg q)

/-! ### sorted of ints -/
def insI (x : Int) : List Int → List Int
  | [] => [x]
  | y :: r => if x ≤ y then x :: y :: r else y :: insI x r
def srtI : List Int → List Int
  | [] => []
  | x :: r => insI x (srtI r)
theorem insI_perm (x : Int) : ∀ l, (insI x l).Perm (x :: l)
  | [] => List.Perm.refl _
  | y :: r => by
    unfold insI
    split
    · exact List.Perm.refl _
    · exact ((insI_perm x r).cons y).trans (List.Perm.swap x y r)
theorem srtI_perm : ∀ l, (srtI l).Perm l
  | [] => List.Perm.refl _
  | x :: r => (insI_perm x (srtI r)).trans ((srtI_perm r).cons x)
theorem insI_sorted (x : Int) : ∀ {l : List Int}, l.Pairwise (· ≤ ·) → (insI x l).Pairwise (· ≤ ·)
  | [], _ => by simp [insI]
  | y :: r, h => by
    obtain ⟨h1, h2⟩ := List.pairwise_cons.mp h
    unfold insI
    split
    · rename_i hxy
      refine List.pairwise_cons.mpr ⟨fun z hz => ?_, h⟩
      rcases List.mem_cons.mp hz with e | hz
      · subst e; exact hxy
      · exact Int.le_trans hxy (h1 z hz)
    · rename_i hxy
      refine List.pairwise_cons.mpr ⟨fun z hz => ?_, insI_sorted x h2⟩
      rcases List.mem_cons.mp ((insI_perm x r).mem_iff.mp hz) with e | hz
      · subst e; omega
      · exact h1 z hz
theorem srtI_sorted : ∀ l, (srtI l).Pairwise (· ≤ ·)
  | [] => List.Pairwise.nil
  | x :: r => insI_sorted x (srtI_sorted r)
theorem sorted_one : ∀ {l m : List Int}, l.Perm m → l.Pairwise (· ≤ ·) → m.Pairwise (· ≤ ·) → l = m
  | [], m, p, _, _ => (List.nil_perm.mp p).symm
  | x :: l, [], p, _, _ => absurd p.length_eq (by simp)
  | x :: l, y :: m, p, h1, h2 => by
    obtain ⟨a1, a2⟩ := List.pairwise_cons.mp h1
    obtain ⟨b1, b2⟩ := List.pairwise_cons.mp h2
    have e : x = y := by
      have hx : x ∈ y :: m := p.mem_iff.mp List.mem_cons_self
      have hy : y ∈ x :: l := p.mem_iff.mpr List.mem_cons_self
      rcases List.mem_cons.mp hx with e | hx
      · exact e
      · rcases List.mem_cons.mp hy with e | hy
        · exact e.symm
        · exact Int.le_antisymm (a1 y hy) (b1 x hx)
    subst e
    rw [sorted_one ((List.perm_cons x).mp p) a2 b2]
def gSortedI : List D → Option D
  | [d] => (seqOf d).bind fun l => (ints? l).bind fun ns => some (.lst true ((srtI ns).map D.int))
  | _ => none
theorem Rs.ints : ∀ ns : List Int, Rs K Z H (ns.map D.int) (ns.map V.int) []
  | [] => .nil
  | n :: r => .cons0 (.int n) (Rs.ints r)
theorem cs_sortedI : ClS K (rSortedI K) gSortedI := fun Z H ds vs F1 d Q rs hg q => by
  unfold gSortedI at hg
  split at hg
  · obtain ⟨l, h1, hg⟩ := Option.bind_eq_some_iff.mp hg
    obtain ⟨ns, h2, hg⟩ := Option.bind_eq_some_iff.mp hg
    cases hg
    obtain ⟨v, rfl, r⟩ := rs.one_inv
    obtain ⟨a, ws, G, rfl, ha, r2, _⟩ := seqOf_at h1 r
    rw [ints?_of h2] at r2
    rw [r2.intsV] at ha
    refine ⟨a, ns, rfl, ha, fun ns' p hp hs hn => ?_⟩
    have e : ns' = srtI ns := sorted_one (hp.trans (srtI_perm ns).symm) hs (srtI_sorted ns)
    subst e
    exact new_list hn (Rs.ints _) q
  · cases hg

/-! ### is, in -/
def gIs (d e : D) : Option D := match d, e with
  | .bl a, .bl b => some (.bl (decide (a = b)))
  | _, _ => none
def gIsNot (d e : D) : Option D := match d, e with
  | .bl a, .bl b => some (.bl (!decide (a = b)))
  | _, _ => none
theorem os_isB : OpS K rIsB gIs := OpS.here fun Z H d1 d2 v1 v2 F1 F2 d Q r1 r2 hg q => by
  unfold gIs at hg
  split at hg
  · cases hg
    exact ⟨_, _, r1.bl_inv, r2.bl_inv, q _ (.bl _)⟩
  · cases hg
theorem os_notB : OpS K rNotB gIsNot := OpS.here fun Z H d1 d2 v1 v2 F1 F2 d Q r1 r2 hg q => by
  unfold gIsNot at hg
  split at hg
  · cases hg
    exact ⟨_, _, r1.bl_inv, r2.bl_inv, q _ (.bl _)⟩
  · cases hg
def isNon : D → Bool
  | .non => true
  | _ => false
def gIsN (d e : D) : Option D := match e with
  | .non => some (.bl (isNon d))
  | _ => none
def gNotN (d e : D) : Option D := match e with
  | .non => some (.bl (!isNon d))
  | _ => none
theorem R.isNon {d : D} {v : V} {F : List Addr} (r : R K Z H d v F) : decide (v = .non) = Vl.isNon d := by
  cases r <;> simp [Vl.isNon]
theorem os_isN : OpS K (fun x y H Q => y = .non ∧ Q (.bl (decide (x = .non))) H) gIsN := OpS.here fun Z H d1 d2 v1 v2 F1 F2 d Q r1 r2 hg q => by
  unfold gIsN at hg
  split at hg
  · cases hg
    exact ⟨r2.non_inv, by rw [r1.isNon]; exact q _ (.bl _)⟩
  · cases hg
theorem os_notN : OpS K (fun x y H Q => y = .non ∧ Q (.bl (!decide (x = .non))) H) gNotN := OpS.here fun Z H d1 d2 v1 v2 F1 F2 d Q r1 r2 hg q => by
  unfold gNotN at hg
  split at hg
  · cases hg
    exact ⟨r2.non_inv, by rw [r1.isNon]; exact q _ (.bl _)⟩
  · cases hg

/-! ### isinstance -/
def tagOf : D → String
  | .non => "NoneType"
  | .bl _ => "bool"
  | .int _ => "int"
  | .str _ => "str"
  | .tup _ => "tuple"
  | .lst _ _ => "list"
  | .dct _ _ _ => "dict"
  | .scr _ => "list"
  | .xt _ => "tuple"
def fIsi (T : String) (f : M D) : M D := fun ρ => (f ρ).bind fun p => (kitB (tagOf p.1) T).bind fun b => some (.bl b, p.2)
theorem sqt_ty {a : Addr} {vs : List V} (h : SqT K H a vs) : TyX K H (.ref a) (.type "tuple") := by
  rcases h with (h | ⟨o, h⟩) | ⟨o, its, n, h1, h2, _⟩
  · exact .base (.tup h)
  · exact .fTuple h
  · exact .kTuple h1 h2
theorem sqf_ty {a : Addr} {vs : List V} (h : SqF K H a vs) : TyX K H (.ref a) (.type "list") := by
  rcases h with ⟨o, h⟩ | ⟨o, its, n, h1, h2, _⟩
  · exact .base (.frz h)
  · exact .kList h1 h2
def notLk : D → Bool
  | .dct false _ _ => false
  | _ => true
theorem R.ty {d : D} {v : V} {F : List Addr} (r : R K Z H d v F) (hn : notLk d = true) : TyX K H v (.type (tagOf d)) := by
  cases r with
  | non => exact .base .non
  | bl b => exact .base (.bl b)
  | int i => exact .base (.int i)
  | str s => exact .base (.str s)
  | tup h _ => exact .base (.tup h)
  | xt h _ _ _ => exact sqt_ty (.inl (.inr ⟨_, h⟩))
  | own h _ => exact .base (.lst h)
  | fzn h _ _ => exact .base (.lst h)
  | knw h _ => exact sqf_ty h
  | dow h _ =>
    obtain ⟨o, h1, h2⟩ := h
    unfold DcH at h2
    split at h2
    · obtain ⟨ks, e, _⟩ := h2; subst e; exact .base (.dK h1)
    · obtain ⟨ks, e, _⟩ := h2; subst e; exact .base (.dT h1)
  | dfz _ _ _ => cases hn
  | dlk _ _ => cases hn
theorem pev_isi {T O : List Nat} {x : Bool} {e : Expr} {f : M D} {pos p pc : Pos} {cn : Str} (c : String) (hgc : Gl X cn) (hmc : X.mg cn = none) (hvc : bootBuiltins cn = some (.type c)) (hg : Gl X "isinstance") (hm : X.mg "isinstance" = none)
    (he : PEV X T O x e f) (hn : cn ≠ "__name__" := by decide) (hd : (cn == ("__debug__" : Str)) = false := by decide)
    (hs1 : starEach [e, .Name cn pc] X.env = (false, eval e X.env) :: starEach [.Name cn pc] X.env := by rfl) (hs2 : starEach [.Name cn pc] X.env = (false, eval (.Name cn pc) X.env) :: starEach [] X.env := by rfl) (hpl : (backTo pos (starEach [.Name cn pc] X.env)).any (·.1) = false := by rfl) :
    PEV X T [] true (.Call (.Name "isinstance" p) [e, .Name cn pc] [] pos) (fun ρ => (f ρ).bind fun p => if notLk p.1 = true then (kitB (tagOf p.1) c).bind fun b => some (.bl b, p.2) else none) := by
  refine PE.imp (pe_callB call_isi hg hm (by decide +kernel) (pa_cons he (pa_cons (pe_bltn (v := .ty c) hgc hmc hvc rfl hn hd) pa_nil hs2) hs1) (by decide) (by decide) hs1 hpl) fun σ H Q h => ?_
  obtain ⟨Z, ρ, Fs, d, ρ', rel, hf, q⟩ := h
  obtain ⟨⟨d1, ρ1⟩, h1, hf⟩ := Option.bind_eq_some_iff.mp hf
  split at hf
  · rename_i hnl
    obtain ⟨b, h2, hf⟩ := Option.bind_eq_some_iff.mp hf
    cases hf
    exact ⟨Z, ρ, Fs, d1, _, rel, h1, fun v H' Z' Fs' F rel' f' w c' => ⟨v, .ty c, _, _, b, rfl, .ty c, w.r.ty hnl, kit_ty h2, q _ H' Z' Fs' [] rel' f' ⟨.bl b, fun _ _ h => (by cases h), fun _ => ⟨List.nodup_nil, fun _ h => (by cases h)⟩⟩ Cf.nil⟩⟩
  · cases hf

/-! ### tuple(range(..)), list(range(..)) -/
def tVR (K : PySem.W.Frag) (T : List Nat) (f : M (Int × Int)) : L2.St → Hp → (Int → Int → Hp → Prop) → Prop := fun σ H Q => ∃ Z ρ Fs o ρ', Rel K Z ρ σ H Fs ∧ f ρ = some (o, ρ') ∧
  ∀ H' Z' Fs', Rel K Z' ρ' σ H' Fs' → Frm T Z ρ Fs H Z' ρ' Fs' H' → Q o.1 o.2 H'
abbrev PRV (X : Cx) (T : List Nat) (e : Expr) (f : M (Int × Int)) : Prop := PRg X e (tVR X.K T f)
theorem PRg.imp {e : Expr} {t t' : L2.St → Hp → (Int → Int → Hp → Prop) → Prop} (h : PRg X e t) (i : ∀ σ H Q, t' σ H Q → t σ H Q) : PRg X e t' := fun pins s σ H Q I q => h pins s σ H Q I (i σ H Q q)
def rRg1 (f : M D) : M (Int × Int) := fun ρ => (f ρ).bind fun p => match p.1 with
  | .int n => some ((0, n), p.2)
  | _ => none
def rRg2 (O1 T2 : List Nat) (f g : M D) : M (Int × Int) := fun ρ => (f ρ).bind fun p => (g p.2).bind fun q => match p.1, q.1 with
  | .int i, .int j => some ((i, j), q.2)
  | _, _ => none
section
variable {T T1 T2 O O1 O2 : List Nat} {x x1 x2 : Bool} {a b e : Expr} {f fa fb : M D} {fr : M (Int × Int)} {p pos : Pos}
theorem prv_1 (hg : Gl X "range") (hm : X.mg "range" = none) (ha : PEV X T O x a f) (na : starEach [a] X.env = (false, eval a X.env) :: starEach [] X.env := by rfl) : PRV X T (.Call (.Name "range" p) [a] [] pos) (rRg1 f) := by
  refine PRg.imp (prg_1 hg hm ha na) fun σ H Q h => ?_
  obtain ⟨Z, ρ, Fs, o, ρ', rel, hf, q⟩ := h
  unfold rRg1 at hf
  obtain ⟨⟨d1, ρ1⟩, h1, hf⟩ := Option.bind_eq_some_iff.mp hf
  split at hf
  · rename_i n e
    cases hf
    have e : d1 = .int n := e
    subst e
    exact ⟨Z, ρ, Fs, _, _, rel, h1, fun v H' Z' Fs' F rel' f' w c' => ⟨n, w.r.int_inv, q H' Z' Fs' rel' f'⟩⟩
  · cases hf
theorem prv_2 (hg : Gl X "range") (hm : X.mg "range" = none) (ha : PEV X T1 O1 x1 a fa) (hb : PEV X T2 O2 x2 b fb) (na : starEach [a, b] X.env = (false, eval a X.env) :: starEach [b] X.env := by rfl) (nb : starEach [b] X.env = (false, eval b X.env) :: starEach [] X.env := by rfl) :
    PRV X (T1 ++ T2) (.Call (.Name "range" p) [a, b] [] pos) (rRg2 O1 T2 fa fb) := by
  refine PRg.imp (prg_2 hg hm ha hb na nb (by rw [nb]; rfl)) fun σ H Q h => ?_
  obtain ⟨Z, ρ, Fs, o, ρ', rel, hf, q⟩ := h
  unfold rRg2 at hf
  obtain ⟨⟨d1, ρ1⟩, h1, hf⟩ := Option.bind_eq_some_iff.mp hf
  obtain ⟨⟨d2, ρ2⟩, h2, hf⟩ := Option.bind_eq_some_iff.mp hf
  split at hf
  · rename_i i j e1 e2
    cases hf
    have e1 : d1 = .int i := e1
    have e2 : d2 = .int j := e2
    subst e1 e2
    exact ⟨Z, ρ, Fs, _, _, rel, h1, fun v H' Z' Fs' F rel' f' w c' => ⟨Z', ρ1, Fs', _, _, rel', h2, fun v2 H2 Z2 Fs2 F2 rel2 f2 w2 c2 => ⟨i, j, w.r.int_inv, w2.r.int_inv, q H2 Z2 Fs2 rel2 (f'.trans f2)⟩⟩⟩
  · cases hf
def okRg (i j : Int) : Bool := okR i && okR j && decide ((j - i).toNat ≤ 100000)
theorem okRg_of {i j : Int} (h : okRg i j = true) : RgOk i j := by
  unfold okRg at h
  rw [Bool.and_eq_true, Bool.and_eq_true] at h
  obtain ⟨h1, h2⟩ := okR_of h.1.1
  obtain ⟨h3, h4⟩ := okR_of h.1.2
  have h5 := of_decide_eq_true h.2
  exact ⟨by omega, by omega, by omega, by omega, by omega⟩
theorem Rs.rg (i j : Int) : Rs K Z H (rgItems i (j - i).toNat) (rgV i j) [] := by
  unfold rgItems rgV
  generalize (j - i).toNat = n
  generalize List.range n = l
  induction l with
  | nil => exact .nil
  | cons k l ih => exact .cons0 (.int _) ih
def fTupRg (fr : M (Int × Int)) : M D := fun ρ => (fr ρ).bind fun p => if okRg p.1.1 p.1.2 = true then some (.tup (rgItems p.1.1 (p.1.2 - p.1.1).toNat), p.2) else none
def fLstRg (fr : M (Int × Int)) : M D := fun ρ => (fr ρ).bind fun p => if okRg p.1.1 p.1.2 = true then some (.lst true (rgItems p.1.1 (p.1.2 - p.1.1).toNat), p.2) else none
theorem pev_tupRg (hc : X.calm = true) (hg : Gl X "tuple") (hm : X.mg "tuple" = none) (he : PRV X T e fr) (na : starEach [e] X.env = (false, eval e X.env) :: starEach [] X.env := by rfl) : PEV X T [] true (.Call (.Name "tuple" p) [e] [] pos) (fTupRg fr) := by
  refine PE.imp (pe_tupRg hc hg hm he na) fun σ H Q h => ?_
  obtain ⟨Z, ρ, Fs, d, ρ', rel, hf, q⟩ := h
  unfold fTupRg at hf
  obtain ⟨⟨⟨i, j⟩, ρ1⟩, h1, hf⟩ := Option.bind_eq_some_iff.mp hf
  split at hf
  · rename_i ho
    cases hf
    refine ⟨Z, ρ, Fs, _, _, rel, h1, fun H' Z' Fs' rel' f' => ⟨okRg_of ho, fun p hp => ?_⟩⟩
    refine new_tup hp (Rs.rg (K := X.K) (Z := Z') i j) fun v H2 F k r nd nw => ?_
    have fz := f'.trans (Frm.pureT [] k)
    rw [List.append_nil] at fz
    exact q v H2 Z' Fs' F (rel'.keep0 k) fz (Val.new rel' r nd nw) (Cf.new f'.keep nw)
  · cases hf
theorem pev_lstRg (hc : X.calm = true) (hg : Gl X "list") (hm : X.mg "list" = none) (he : PRV X T e fr) (na : starEach [e] X.env = (false, eval e X.env) :: starEach [] X.env := by rfl) : PEV X T [] true (.Call (.Name "list" p) [e] [] pos) (fLstRg fr) := by
  refine PE.imp (pe_listRg hc hg hm he na) fun σ H Q h => ?_
  obtain ⟨Z, ρ, Fs, d, ρ', rel, hf, q⟩ := h
  unfold fLstRg at hf
  obtain ⟨⟨⟨i, j⟩, ρ1⟩, h1, hf⟩ := Option.bind_eq_some_iff.mp hf
  split at hf
  · rename_i ho
    cases hf
    refine ⟨Z, ρ, Fs, _, _, rel, h1, fun H' Z' Fs' rel' f' => ⟨okRg_of ho, fun p hp => ?_⟩⟩
    refine new_list hp (Rs.rg (K := X.K) (Z := Z') i j) fun v H2 F k r nd nw => ?_
    have fz := f'.trans (Frm.pureT [] k)
    rw [List.append_nil] at fz
    exact q v H2 Z' Fs' F (rel'.keep0 k) fz (Val.new rel' r nd nw) (Cf.new f'.keep nw)
  · cases hf
end

/-! ### methods that change the list or dict of a slot -/
def MtU (K : PySem.W.Frag) (r : V → List V → Hp → VK → Prop) (g : D → List D → Option (D × D)) : Prop := ∀ (Z : Addr → Prop) (H : Hp) (d0 : D) (v0 : V) (F0 : List Addr) (ds : List D) (vs : List V) (F : List Addr) (d d' : D) (Q : VK),
  R K Z H d0 v0 F0 → Rs K Z H ds vs F → (F0 ++ F).Nodup → (∀ a ∈ F0 ++ F, ¬ Z a) → (∀ a, Z a → H a ≠ none) → g d0 ds = some (d, d') →
  (∀ v H' F' F0', Keep (fun a => a ∈ F0) H H' → R K Z H' d v F' → R K Z H' d' v0 F0' → (F' ++ F0').Nodup → (∀ a ∈ F' ++ F0', a ∈ F0 ∨ a ∈ F ∨ H a = none) → Q v H') → r v0 vs H Q
def tyIs (T : String) : D → Bool
  | .lst _ _ => T == "list"
  | .dct true _ _ => T == "dict"
  | .str _ => T == "str"
  | _ => false
theorem R.tyV {T : String} {d : D} {v : V} {F : List Addr} (r : R K Z H d v F) (h : tyIs T d = true) : L2.tyV K T v H := by
  cases r with
  | non => cases h
  | bl b => cases h
  | int i => cases h
  | str s => exact eq_of_beq h
  | tup _ _ => cases h
  | xt _ _ _ _ => cases h
  | own e _ => exact .inl ⟨eq_of_beq h, _, SqL.of e⟩
  | fzn e _ _ => exact .inl ⟨eq_of_beq h, _, SqL.of e⟩
  | knw _ _ => cases h
  | dow e _ =>
    refine .inr (.inr (.inl ⟨eq_of_beq h, ?_⟩))
    obtain ⟨o, h1, h2⟩ := e
    unfold DcH at h2
    split at h2
    · obtain ⟨ks, e, _⟩ := h2; subst e; exact .inl ⟨_, h1⟩
    · obtain ⟨ks, e, _⟩ := h2; subst e; exact .inr ⟨_, h1⟩
  | dfz _ _ _ => cases h
  | dlk _ _ => cases h
def fMut (i : Nat) (ty : String) (g : D → List D → Option (D × D)) (fr : M (List D)) : M D := fun ρ => (Env.at ρ i).bind fun o => if tyIs ty o = true then (fr ρ).bind fun p => (Env.at p.2 i).bind fun o' => (g o' p.1).bind fun q => some (q.1, p.2.set i (some q.2)) else none
section
variable {T O : List Nat} {e : Expr} {es : List Expr} {fr : M (List D)} {pos : Pos}
theorem mut_end {Z Z1 : Addr → Prop} {ρ ρ1 : Env} {Fs Fs1 : Ft} {H H1 H' : Hp} {σ : L2.St} {i : Nat} {d' : D} {v0 : V} {F F' F0' : List Addr} (rel1 : Rel K Z1 ρ1 σ H1 Fs1) (f1 : Frm T Z ρ Fs H Z1 ρ1 Fs1 H1) (c1 : Cf T Fs H true F)
    (hF : ∀ j a, a ∈ F → a ∉ Fs1 j) (hnz : ∀ a ∈ F, ¬ Z1 a) (hv0 : σ[i]? = some (some v0)) (hil : i < ρ1.length) (k : Keep (fun a => a ∈ Fs1 i) H1 H') (r' : R K Z1 H' d' v0 F0') (nd : (F' ++ F0').Nodup) (cf : ∀ a ∈ F' ++ F0', a ∈ Fs1 i ∨ a ∈ F ∨ H1 a = none) :
    Rel K Z1 (ρ1.set i (some d')) σ H' (fun j => if j = i then F0' else Fs1 j) ∧ Frm (T ++ [i]) Z ρ Fs H Z1 (ρ1.set i (some d')) (fun j => if j = i then F0' else Fs1 j) H' ∧
    (∀ j a, a ∈ F' → a ∉ (fun j => if j = i then F0' else Fs1 j) j) ∧ (∀ a ∈ F' ++ F0', ¬ Z1 a) ∧ Cf (T ++ [i]) Fs H true F' := by
  obtain ⟨nd1, nd2, nd12⟩ := List.nodup_append.mp nd
  have far : ∀ {j a}, j ≠ i → a ∈ Fs1 j → a ∉ F' ++ F0' := fun {j a} hj ha hm => by
    rcases cf a hm with z | z | z
    · exact hj (rel1.dj j i a ha z)
    · exact hF j a z ha
    · exact rel1.ft j a ha z
  have nz : ∀ a ∈ F' ++ F0', ¬ Z1 a := fun a hm h => by
    rcases cf a hm with z | z | z
    · exact rel1.nz i a z h
    · exact hnz a z h
    · exact rel1.zt a h z
  have up : ∀ {a}, (∃ j ∈ T, a ∈ Fs j) → ∃ j ∈ T ++ [i], a ∈ Fs j := fun ⟨j, hj, h⟩ => ⟨j, List.mem_append_left _ hj, h⟩
  have own1 : ∀ {a}, a ∈ Fs1 i → (∃ j ∈ T ++ [i], a ∈ Fs j) ∨ H a = none := fun {a} h => by
    by_cases q : i ∈ T
    · exact (f1.c1 i q a h).imp up id
    · rw [(f1.sub i q).1] at h
      exact .inl ⟨i, List.mem_append_right _ List.mem_cons_self, h⟩
  have conf : ∀ a ∈ F' ++ F0', (∃ j ∈ T ++ [i], a ∈ Fs j) ∨ H a = none := fun a hm => by
    rcases cf a hm with z | z | z
    · exact own1 z
    · exact (c1 rfl a z).imp up id
    · exact .inr (f1.keep.back z)
  refine ⟨⟨fun j d e => ?_, fun j => ?_, fun j m a h1 h2 => ?_, fun j a h => ?_, fun a h => k.dom a (rel1.zt a h), fun j a h => ?_, by rw [List.length_set]; exact rel1.len⟩,
    ⟨fun j hj => ?_, f1.keep.trans k (fun a h => up h) fun a h => own1 h, fun j hj a ha => ?_, fun a h => (f1.c3 a h).imp id fun h => h.imp up id, f1.zz, by rw [List.length_set]; exact f1.len⟩, fun j a h1 h2 => ?_, nz, fun _ a ha => conf a (List.mem_append_left _ ha)⟩
  · by_cases q : j = i
    · subst q
      rw [List.getElem?_set_self hil] at e
      cases e
      simp only [if_pos rfl]
      exact ⟨v0, hv0, r'⟩
    · rw [List.getElem?_set_ne (Ne.symm q)] at e
      simp only [if_neg q]
      obtain ⟨v, h1, h2⟩ := rel1.at_ j d e
      exact ⟨v, h1, h2.keep k (fun _ h => h) (fun a z h => rel1.nz i a h z) fun a ha h => q (rel1.dj j i a ha h)⟩
  · by_cases q : j = i
    · simp only [if_pos q]; exact nd2
    · simp only [if_neg q]; exact rel1.nd j
  · by_cases q : j = i
    · by_cases p : m = i
      · rw [q, p]
      · simp only [if_pos q] at h1
        simp only [if_neg p] at h2
        exact absurd (List.mem_append_right _ h1) (far p h2)
    · by_cases p : m = i
      · simp only [if_neg q] at h1
        simp only [if_pos p] at h2
        exact absurd (List.mem_append_right _ h2) (far q h1)
      · simp only [if_neg q] at h1
        simp only [if_neg p] at h2
        exact rel1.dj j m a h1 h2
  · by_cases q : j = i
    · simp only [if_pos q] at h; exact nz a (List.mem_append_right _ h)
    · simp only [if_neg q] at h; exact rel1.nz j a h
  · by_cases q : j = i
    · simp only [if_pos q] at h; exact r'.tr a h
    · simp only [if_neg q] at h; exact k.dom a (rel1.ft j a h)
  · have q : j ≠ i := fun e => hj (by rw [e]; exact List.mem_append_right _ List.mem_cons_self)
    have h := f1.sub j fun z => hj (List.mem_append_left _ z)
    exact ⟨(if_neg q).trans h.1, (List.getElem?_set_ne (Ne.symm q)).trans h.2⟩
  · by_cases q : j = i
    · simp only [if_pos q] at ha
      exact conf a (List.mem_append_right _ ha)
    · simp only [if_neg q] at ha
      rcases List.mem_append.mp hj with hj | hj
      · exact (f1.c1 j hj a ha).imp up id
      · exact absurd (by simpa using hj) q
  · by_cases q : j = i
    · simp only [if_pos q] at h2
      exact nd12 a h1 a h2 rfl
    · simp only [if_neg q] at h2
      exact far q h2 (List.mem_append_left _ h1)
theorem tv_mut (i : Nat) {ty : String} {r : V → List V → Hp → VK → Prop} {g : D → List D → Option (D × D)} (hm : MtU X.K r g) {σ : L2.St} {H : Hp} {Q : VK} (h : tV X.K (T ++ [i]) [] true (fMut i ty g fr) σ H Q) : tBM X.K ty r (tVar i) (tVL X.K T [] true fr) σ H Q := by
  obtain ⟨Z, ρ, Fs, d, ρ', rel, hf, q⟩ := h
  unfold fMut at hf
  obtain ⟨o, h0, hf⟩ := Option.bind_eq_some_iff.mp hf
  split at hf
  · rename_i hty
    obtain ⟨⟨ds, ρ1⟩, h1, hf⟩ := Option.bind_eq_some_iff.mp hf
    obtain ⟨o', h2, hf⟩ := Option.bind_eq_some_iff.mp hf
    obtain ⟨⟨d1, d'⟩, h3, hf⟩ := Option.bind_eq_some_iff.mp hf
    cases hf
    obtain ⟨v0, hv0, r0⟩ := rel.at_ i o (Env.at_some h0)
    refine ⟨v0, hv0, r0.tyV hty, Z, ρ, Fs, ds, ρ1, rel, h1, fun vs H1 Z1 Fs1 F rel1 f1 w1 c1 => ?_⟩
    have hio := Env.at_some h2
    obtain ⟨v1, hv1, r1⟩ := rel1.at_ i o' hio
    rw [hv0] at hv1
    cases hv1
    obtain ⟨ndF, nzF⟩ := w1.exc rfl
    refine hm Z1 H1 o' v0 (Fs1 i) ds vs F d1 d' Q r1 w1.r (List.nodup_append.mpr ⟨rel1.nd i, ndF, fun a ha b hb e => ?_⟩) (fun a ha => ?_) rel1.zt h3 fun v H' F' F0' k rd rd' nd cf => ?_
    · subst e
      exact absurd (w1.ori i a hb ha) (by simp)
    · rcases List.mem_append.mp ha with ha | ha
      · exact rel1.nz i a ha
      · exact nzF a ha
    · obtain ⟨e1, e2, e3, e4, e5⟩ := mut_end rel1 f1 c1 (fun j a h1 h2 => absurd (w1.ori j a h1 h2) (by simp)) nzF hv0 (Env.lt hio) k rd' nd cf
      exact q v H' Z1 _ F' e1 e2 ⟨rd, fun j a h1 h2 => absurd h2 (e3 j a h1), fun _ => ⟨(List.nodup_append.mp nd).1, fun a ha => e4 a (List.mem_append_left _ ha)⟩⟩ e5
  · cases hf
end
end
end Vl

namespace Vl
open PySem PySem.Spec PyProof.Rows L2 AutoSeq1
theorem list_extend_tupW (l : Addr) (items : Array Value) (n : Nat) (b : Addr) (items2 : Array Value) (n2 : Nat) (dd : Option Addr) (sl : Array (Option Value)) (hs0 : ¬(!items.isEmpty && Builtin.List.listTooLong (items.size + items2.size)) = true) (hs1 : items.size ≤ sizeLine) (hs2 : items.size + items2.size ≤ sizeLine + 1) :
    Meets (Builtin.«list.extend» ⟨[.ref l, .ref b], []⟩) (fun _ R s => s.heap.get? l = some { cls := .type "list", dict := none, data := .seq items n, slots := #[] } ∧ s.heap.get? b = some { cls := .type "tuple", dict := dd, data := .seq items2 n2, slots := sl } ∧ R (.ok (.ret Value.none)) { s with heap := s.heap.update l (Obj.mapSeq fun x => x ++ items2), toks := s.toks }) :=
  .of_wp fun prog w A R s h => by
    obtain ⟨hp, g, d, tk, os⟩ := s; obtain ⟨hl, hb, h⟩ := h; have f1 := AutoSeq1.idx_int; have f2 := AutoSeq1.sub_tuple_tuple; have f3 := AutoSeq1.sub_list_list; have f4 := AutoSeq1.sub_tuple_list; have f5 := AutoSeq1.sub_list_tuple
    have hz' : (items ++ items2).size ≤ sizeLine + 1 := by rw [Array.size_append]; exact hs2
    wp_walk using (wpAny_updateSeq hl rfl (hz := hs1) (_hz' := hz')), wpAny_loadPart' hl, wpAny_loadPart' hb
    exact ⟨_, rfl, h⟩
/-- list.extend of a tuple -/
def rExtendT (K : PySem.W.Frag) : V → List V → Hp → VK → Prop := fun x vs H Q => ∃ l b xs zs, x = .ref l ∧ vs = [.ref b] ∧ H l = some (.lst xs) ∧ SqT K H b zs ∧ xs.length + zs.length ≤ sizeLine ∧ Q .non (upd H l (.lst (xs ++ zs)))
theorem mt_extendT {X : Cx} : MtM X "list.extend" (rExtendT X.K) := by
  intro pins s σ H x vs v us Q I rx rv h
  obtain ⟨l, b, xs, zs, rfl, rfl, hH, hB, hz, q⟩ := h
  cases rx
  obtain ⟨u, rfl, ru⟩ := rv.one
  cases ru
  obtain ⟨z, its, n, r, hl, e⟩ := I.lstM hH
  obtain ⟨its2, r2, ⟨⟨cls, dd, data, sl⟩, ho, hc, n2, hd⟩, hs⟩ := I.tuple hB
  simp only at hc hd
  subst hc hd
  have hl2 := r2.length
  have hsz : its.toArray.size + its2.toArray.size ≤ sizeLine := by rw [List.size_toArray, List.size_toArray]; omega
  have hlong : ¬ (!its.toArray.isEmpty && Builtin.List.listTooLong (its.toArray.size + its2.toArray.size)) = true := by
    rw [notLongL hsz, Bool.and_false]
    exact Bool.false_ne_true
  refine call_meets F.slot_list_extend ⟨_, e, rfl⟩ F.entry_list_extend (F.args_list_extend_2 _ _)
    (list_extend_tupW l its.toArray n b its2.toArray n2 dd sl hlong (by rw [List.size_toArray]; omega) (by omega)) ⟨e, ho, ?_⟩
  refine ⟨.non, _, I.lset (its' := its ++ its2) hH e (by simp) (r.append r2) ?_, rfl, q⟩
  rw [List.length_append]
  omega
end Vl

namespace Vl
open PySem PySem.Spec PyProof.Rows L2

section
variable {X : Cx} {K : PySem.W.Frag} {Z : Addr → Prop} {H : Hp}
def gAppend (d0 : D) (ds : List D) : Option (D × D) := match d0, ds with
  | .lst true l, [d] => if szOk l.length = true then some (.non, .lst true (l ++ [d])) else none
  | _, _ => none
theorem mu_append : MtU K rAppend gAppend := fun Z H d0 v0 F0 ds vs F d d' Q r0 rs nd nz zt hg q => by
  unfold gAppend at hg
  split at hg
  · split at hg
    · rename_i l e hz
      cases hg
      obtain ⟨a, ws, G, rfl, rfl, ha, ra⟩ := r0.own_inv
      obtain ⟨v, rfl, rv⟩ := rs.one_inv
      refine ⟨a, ws, v, rfl, rfl, ha, by rw [← ra.length]; exact sz_lt hz, ?_⟩
      have k : Keep (fun b => b = a) H (upd H a (.lst (ws ++ [v]))) := Keep.wr ha trivial
      obtain ⟨n1, n2⟩ := List.nodup_cons.mp (show (a :: (G ++ F)).Nodup from nd)
      have hz' : ∀ b, Z b → ¬ b = a := fun b z e => nz a List.mem_cons_self (by rw [← e]; exact z)
      refine q .non _ [] (a :: (G ++ F)) (k.mono fun b e => by rw [e]; exact List.mem_cons_self) .non (.own upd_same ?_) (by rw [List.nil_append]; exact nd) fun b hb => ?_
      · exact Rs.app (ra.keep k (fun _ h => h) hz' fun b hb e => n1 (by rw [← e]; exact List.mem_append_left _ hb)) (Rs.one (rv.keep k (fun _ h => h) hz' fun b hb e => n1 (by rw [← e]; exact List.mem_append_right _ hb)))
      · rcases List.mem_cons.mp hb with e | hb
        · exact .inl (by rw [e]; exact List.mem_cons_self)
        · rcases List.mem_append.mp hb with hb | hb
          · exact .inl (List.mem_cons_of_mem _ hb)
          · exact .inr (.inl hb)
    · cases hg
  · cases hg
/-- an own list is written: shared items alone -/
theorem upd_own {d : D} {a : Addr} {ws ws' : List V} {l' : List D} {v : V} {Q : VK} {F : List Addr} (ha : H a = some (.lst ws)) (hz : ∀ b, Z b → ¬ b = a) (nd : a ∉ F) (ndF : F.Nodup) (rv : R K Z H d v F) (rl : Rs K Z H l' ws' [])
    (q : ∀ v H' F' F0', Keep (fun b => b ∈ [a]) H H' → R K Z H' d v F' → R K Z H' (.lst true l') (.ref a) F0' → (F' ++ F0').Nodup → (∀ b ∈ F' ++ F0', b ∈ [a] ∨ b ∈ F ∨ H b = none) → Q v H') : Q v (upd H a (.lst ws')) := by
  have k : Keep (fun b => b = a) H (upd H a (.lst ws')) := Keep.wr ha trivial
  refine q v _ F [a] (k.mono fun b e => by rw [e]; exact List.mem_cons_self) (rv.keep k (fun _ h => h) hz fun b hb e => nd (by rw [← e]; exact hb)) (.own upd_same (rl.keep k (fun _ h => h) hz fun b hb => (by cases hb))) ?_ fun b hb => ?_
  · exact List.nodup_append.mpr ⟨ndF, by simp, fun x hx y hy e => nd (by have e2 : y = a := List.mem_singleton.mp hy; exact e2 ▸ e ▸ hx)⟩
  · rcases List.mem_append.mp hb with hb | hb
    · exact .inr (.inl hb)
    · exact .inl hb
theorem Rs.dropLast0 : ∀ {ds : List D} {vs : List V}, Rs K Z H ds vs [] → Rs K Z H ds.dropLast vs.dropLast [] := fun {ds vs} r => by
  rw [List.dropLast_eq_take, List.dropLast_eq_take, r.length]
  exact r.take0 _
theorem Rs.erase0 : ∀ {ds : List D} {vs : List V} (n : Nat), Rs K Z H ds vs [] → Rs K Z H (ds.eraseIdx n) (vs.eraseIdx n) []
  | [], [], n, r => r
  | [], v :: vs, n, r => nomatch r
  | d :: ds, [], n, r => nomatch r
  | d :: ds, v :: vs, n, r => by
    obtain ⟨v', ws, F1, F2, e1, e2, r1, r2⟩ := r.uncons
    cases e1
    obtain ⟨e3, e4⟩ := app_eq_nil e2.symm
    subst e3 e4
    cases n with
    | zero => exact r2
    | succ n => exact .cons0 r1 (Rs.erase0 n r2)
theorem Rs.set0 {e : D} {w : V} (re : R K Z H e w []) : ∀ {ds : List D} {vs : List V} (n : Nat), Rs K Z H ds vs [] → Rs K Z H (ds.set n e) (vs.set n w) []
  | [], [], n, r => r
  | [], v :: vs, n, r => nomatch r
  | d :: ds, [], n, r => nomatch r
  | d :: ds, v :: vs, n, r => by
    obtain ⟨v', ws, F1, F2, e1, e2, r1, r2⟩ := r.uncons
    cases e1
    obtain ⟨e3, e4⟩ := app_eq_nil e2.symm
    subst e3 e4
    cases n with
    | zero => exact .cons0 re r2
    | succ n => exact .cons0 r1 (Rs.set0 re n r2)
def gPop (d0 : D) (ds : List D) : Option (D × D) := match d0, ds with
  | .lst true l, [] => if D.noOwnL l = true then (l[l.length - 1]?).bind fun d => some (d, .lst true l.dropLast) else none
  | _, _ => none
theorem mu_pop : MtU K rPop gPop := fun Z H d0 v0 F0 ds vs F d d' Q r0 rs nd nz zt hg q => by
  unfold gPop at hg
  split at hg
  · split at hg
    · rename_i l hn
      obtain ⟨e, he, hg⟩ := Option.bind_eq_some_iff.mp hg
      cases hg
      obtain ⟨a, ws, G, rfl, rfl, ha, ra⟩ := r0.own_inv
      have e0 := ra.no hn
      subst e0
      cases rs
      obtain ⟨v, G2, h1, h2, h3⟩ := ra.get he
      have e2 : G2 = [] := by
        cases G2 with
        | nil => rfl
        | cons x r => exact absurd (h3 x List.mem_cons_self) (by simp)
      subst e2
      rw [ra.length] at h1
      exact ⟨a, ws, v, rfl, rfl, ha, h1, upd_own ha (fun b z e => nz a List.mem_cons_self (by rw [← e]; exact z)) (by simp) List.nodup_nil h2 ra.dropLast0 q⟩
    · cases hg
  · cases hg
def gPopAt (d0 : D) (ds : List D) : Option (D × D) := match d0, ds with
  | .lst true l, [.int i] => if (D.noOwnL l && szOk l.length) = true then (ixN l.length i).bind fun k => (l[k]?).bind fun d => some (d, .lst true (l.eraseIdx k)) else none
  | _, _ => none
theorem mu_popAt : MtU K rPopAt gPopAt := fun Z H d0 v0 F0 ds vs F d d' Q r0 rs nd nz zt hg q => by
  unfold gPopAt at hg
  split at hg
  · split at hg
    · rename_i l i hn
      obtain ⟨k, hk, hg⟩ := Option.bind_eq_some_iff.mp hg
      obtain ⟨e, he, hg⟩ := Option.bind_eq_some_iff.mp hg
      cases hg
      rw [Bool.and_eq_true] at hn
      obtain ⟨a, ws, G, rfl, rfl, ha, ra⟩ := r0.own_inv
      have e0 := ra.no hn.1
      subst e0
      have hvs := rs.ints1
      obtain ⟨v, G2, h1, h2, h3⟩ := ra.get he
      have e2 : G2 = [] := by
        cases G2 with
        | nil => rfl
        | cons x r => exact absurd (h3 x List.mem_cons_self) (by simp)
      subst e2
      obtain ⟨s1, s2, s3, s4⟩ := ixN_seq hk
      have hz : l.length ≤ 100000 := of_decide_eq_true hn.2
      refine ⟨a, ws, i, k, v, rfl, hvs, ha, by omega, by omega, by rw [← ra.length]; exact s1, h1, ?_⟩
      refine upd_own ha (fun b z e => nz a List.mem_cons_self (by rw [← e]; exact z)) (by simp) List.nodup_nil h2 (ra.erase0 k) fun v H' F' F0' k r1 r2 n1 n2 => q v H' F' F0' k r1 r2 n1 fun b hb => (n2 b hb).imp id fun h => h.elim (fun h => (by cases h)) .inr
    · cases hg
  · cases hg
def rExtB (K : PySem.W.Frag) : V → List V → Hp → VK → Prop := fun x vs H Q => rExtend x vs H Q ∨ rExtendT K x vs H Q
theorem mt_extB {X : Cx} : MtR X "list.extend" (rExtB X.K) := MtR.or mt_extend mt_extendT
def gExtL (l m : List D) : Option (D × D) := if (D.noOwnL l && D.noOwnL m && szOk (l.length + m.length)) = true then some (.non, .lst true (l ++ m)) else none
def gExtend (d0 : D) (ds : List D) : Option (D × D) := match d0, ds with
  | .lst true l, [.lst _ m] => gExtL l m
  | .lst true l, [.tup m] => gExtL l m
  | _, _ => none
theorem mu_extend : MtU K (rExtB K) gExtend := fun Z H d0 v0 F0 ds vs F d d' Q r0 rs nd nz zt hg q => by
  have q' := fun v H' F' F0' k r1 r2 n1 (n2 : ∀ b ∈ F' ++ F0', b ∈ F0 ∨ b ∈ [] ∨ H b = none) => q v H' F' F0' k r1 r2 n1 fun b hb => (n2 b hb).imp id fun h => h.elim (fun h => (by cases h)) .inr
  unfold gExtend at hg
  split at hg
  · rename_i l o m
    unfold gExtL at hg
    split at hg
    · rename_i h
      cases hg
      rw [Bool.and_eq_true, Bool.and_eq_true] at h
      obtain ⟨⟨h1, h2⟩, h3⟩ := h
      obtain ⟨a, ws, G, rfl, rfl, ha, ra⟩ := r0.own_inv
      have e0 := ra.no h1
      subst e0
      obtain ⟨v, rfl, rv⟩ := rs.one_inv
      obtain ⟨b, zs, G2, rfl, hb, rz⟩ := rv.lst_tr
      have rz := rz.nil_of h2
      refine .inl ⟨a, b, ws, zs, rfl, rfl, ha, hb, by rw [← ra.length, ← rz.length]; exact sz_of h3, upd_own ha (fun b z e => nz a List.mem_cons_self (by rw [← e]; exact z)) (by simp) List.nodup_nil .non ?_ q'⟩
      exact Rs.app (F := []) (G := []) ra rz
    · cases hg
  · rename_i l m
    unfold gExtL at hg
    split at hg
    · rename_i h
      cases hg
      rw [Bool.and_eq_true, Bool.and_eq_true] at h
      obtain ⟨⟨h1, h2⟩, h3⟩ := h
      obtain ⟨a, ws, G, rfl, rfl, ha, ra⟩ := r0.own_inv
      have e0 := ra.no h1
      subst e0
      obtain ⟨v, rfl, rv⟩ := rs.one_inv
      obtain ⟨b, zs, rfl, hb, rz⟩ := rv.tup_inv
      have rz := rz.nil_of h2
      refine .inr ⟨a, b, ws, zs, rfl, rfl, ha, hb, by rw [← ra.length, ← rz.length]; exact sz_of h3, upd_own ha (fun b z e => nz a List.mem_cons_self (by rw [← e]; exact z)) (by simp) List.nodup_nil .non ?_ q'⟩
      exact Rs.app (F := []) (G := []) ra rz
    · cases hg
  · cases hg
end
section
variable {X : Cx} {T : List Nat} {e : Expr} {es : List Expr} {fr : M (List D)} {y name : Str} {ty id : String} {apos cpos npos : Pos} {r : V → List V → Hp → VK → Prop} {g : D → List D → Option (D × D)}
theorem tv_mut0 (i : Nat) (hm : MtU X.K r g) {σ : L2.St} {H : Hp} {Q : VK} (h : tV X.K [i] [] true (fMut i ty g fNil) σ H Q) : tBM0 X.K ty r (tVar i) σ H Q := by
  obtain ⟨v, hv, h1, h2⟩ := tv_mut (T := []) i hm h
  refine ⟨v, hv, h1, ?_⟩
  obtain ⟨Z, ρ, Fs, ds, ρ', rel, hf, q⟩ := h2
  cases hf
  exact q [] H Z Fs [] rel (Frm.refl _) ⟨.nil, fun _ _ h => (by cases h), fun _ => ⟨List.nodup_nil, fun _ h => (by cases h)⟩⟩ Cf.nil
theorem pev_bm (i : Nat) (pa : PlainAttrs ty) (slot : Slot ty name id) (hty : typeOf (.builtin id) = pure (.type "method_descriptor")) (hm : MtR X id r) (hu : MtU X.K r g) (ha : PAV X T [] true (e :: es) fr)
    (hN : X.N[i]? = some y := by rfl) (hv : Vis X.env.scope y := by first | exact Or.inl rfl | exact Or.inr (Or.inl rfl) | exact Or.inr (Or.inr rfl)) (hd : (y == ("__debug__" : Str)) = false := by decide) (hcd : (y == ("__classdict__" : Str)) = false := by decide)
    (hbase : attributeBase (.Name y npos) name X.env (eval (.Name y npos) X.env) = eval (.Name y npos) X.env := by rfl)
    (hfew : ((backTo cpos (starEach (e :: es) X.env)).all (fun x => !x.1) && (backToKw cpos (keywordEach [] X.env)).all (fun x => x.1.isSome)
      && decide ((e :: es).length + ([] : List Keyword).length + (if ([] : List Keyword).isEmpty then 0 else 1) < 30)) = true := by rfl)
    (hline : (apos.endLine == cpos.line) = true := by rfl) (hs : starEach (e :: es) X.env = (false, eval e X.env) :: starEach es X.env := by rfl) (hplain : (backTo cpos (starEach es X.env)).any (·.1) = false := by rfl) :
    PEV X (T ++ [i]) [] true (.Call (.Attribute (.Name y npos) name apos) (e :: es) [] cpos) (fMut i ty g fr) :=
  PE.imp (pe_bm pa slot hty hm (pe_var hN hv hd hcd) ha hbase hfew hline hs hplain) fun _ _ _ h => tv_mut i hu h
theorem pev_bm0 (i : Nat) (pa : PlainAttrs ty) (slot : Slot ty name id) (hty : typeOf (.builtin id) = pure (.type "method_descriptor")) (hm : MtR X id r) (hu : MtU X.K r g)
    (hN : X.N[i]? = some y := by rfl) (hv : Vis X.env.scope y := by first | exact Or.inl rfl | exact Or.inr (Or.inl rfl) | exact Or.inr (Or.inr rfl)) (hd : (y == ("__debug__" : Str)) = false := by decide) (hcd : (y == ("__classdict__" : Str)) = false := by decide)
    (hbase : attributeBase (.Name y npos) name X.env (eval (.Name y npos) X.env) = eval (.Name y npos) X.env := by rfl) (hline : (apos.endLine == cpos.line) = true := by rfl) :
    PEV X [i] [] true (.Call (.Attribute (.Name y npos) name apos) [] [] cpos) (fMut i ty g fNil) :=
  PE.imp (pe_bm0 pa slot hty hm (pe_var hN hv hd hcd) hbase hline) fun _ _ _ h => tv_mut0 i hu h
end
end Vl

namespace Vl
open PySem PySem.Spec PyProof.Rows L2

/-! ### dicts as pairs: keys ints, texts (or tuples of these) -/
def kE : D → D → Bool
  | .int i, .int j => decide (i = j)
  | .str a, .str b => decide (a = b)
  | _, _ => false
def kEs : List D → List D → Bool
  | [], [] => true
  | a :: r, b :: s => kE a b && kEs r s
  | _, _ => false
def kEq (a b : D) : Bool := match a, b with
  | .tup l, .tup m => kEs l m
  | _, _ => kE a b
def keyOf : D → Option Key
  | .int i => some (.inl i)
  | .str s => some (.inr s)
  | _ => none
def lookD (kvs : List (D × D)) (k : D) : Option D := match kvs with
  | [] => none
  | p :: r => if kEq p.1 k = true then some p.2 else lookD r k
def hasD (kvs : List (D × D)) (k : D) : Bool := match kvs with
  | [] => false
  | p :: r => kEq p.1 k || hasD r k
def replD (kvs : List (D × D)) (k v : D) : List (D × D) := kvs.map fun p => if kEq p.1 k = true then (p.1, v) else p
def putD (kvs : List (D × D)) (k v : D) : List (D × D) := if hasD kvs k = true then replD kvs k v else kvs ++ [(k, v)]
def delD (kvs : List (D × D)) (k : D) : List (D × D) := kvs.filter fun p => !kEq p.1 k
theorem keyOf_some {d : D} {k : Key} (h : keyOf d = some k) : d = kD k := by
  unfold keyOf at h
  split at h <;> cases h <;> rfl
theorem kEq_kD (a b : Key) : kEq (kD a) (kD b) = decide (a = b) := by
  cases a <;> cases b <;> simp [kEq, kE, kD]

section
variable {K : PySem.W.Frag} {Z : Addr → Prop} {H : Hp} {κ : Type} [DecidableEq κ] {enc : κ → D}
/-- the same keys, related values -/
structure DRel (K : PySem.W.Frag) (Z : Addr → Prop) (H : Hp) (enc : κ → D) (kvs : List (D × D)) (ws : List (κ × V)) (F : List Addr) : Prop where
  ks : kvs.map (·.1) = ws.map (fun p => enc p.1)
  rs : Rs K Z H (kvs.map (·.2)) (ws.map (·.2)) F
theorem DRel.uncons {p : D × D} {kvs : List (D × D)} {ws : List (κ × V)} {F : List Addr} (r : DRel K Z H enc (p :: kvs) ws F) :
    ∃ q qs F1 F2, ws = q :: qs ∧ p.1 = enc q.1 ∧ F = F1 ++ F2 ∧ R K Z H p.2 q.2 F1 ∧ DRel K Z H enc kvs qs F2 := by
  obtain ⟨k, r⟩ := r
  cases ws with
  | nil => cases k
  | cons q qs =>
    rw [List.map_cons, List.map_cons] at k
    injection k with k1 k2
    obtain ⟨v, vs, F1, F2, e1, e2, r1, r2⟩ := Rs.uncons (show Rs K Z H (p.2 :: kvs.map (·.2)) (q.2 :: qs.map (·.2)) F from r)
    cases e1
    exact ⟨q, qs, F1, F2, rfl, k1, e2, r1, k2, r2⟩
theorem DRel.nil_ {ws : List (κ × V)} {F : List Addr} (r : DRel K Z H enc [] ws F) : ws = [] := by
  cases ws with
  | nil => rfl
  | cons q qs => cases r.ks
theorem DRel.cons0 {p : D × D} {q : κ × V} {kvs : List (D × D)} {ws : List (κ × V)} (h1 : p.1 = enc q.1) (h2 : R K Z H p.2 q.2 []) (r : DRel K Z H enc kvs ws []) : DRel K Z H enc (p :: kvs) (q :: ws) [] :=
  ⟨by rw [List.map_cons, List.map_cons, h1, r.ks], .cons0 h2 r.rs⟩
theorem DRel.look (he : ∀ a b, kEq (enc a) (enc b) = decide (a = b)) (k : κ) : ∀ {kvs : List (D × D)} {ws : List (κ × V)} {F : List Addr}, DRel K Z H enc kvs ws F →
    (∀ d, lookD kvs (enc k) = some d → ∃ v G, valV ws k = some v ∧ R K Z H d v G ∧ ∀ a ∈ G, a ∈ F) ∧ (lookD kvs (enc k) = none → valV ws k = none)
  | [], ws, F, r => by
    rw [r.nil_]
    exact ⟨fun d h => (by cases h), fun _ => rfl⟩
  | p :: kvs, ws, F, r => by
    obtain ⟨q, qs, F1, F2, rfl, k1, rfl, r1, r2⟩ := r.uncons
    obtain ⟨h1, h2⟩ := DRel.look he k r2
    have e : kEq p.1 (enc k) = decide (q.1 = k) := by rw [k1, he]
    by_cases c : q.1 = k
    · rw [valV_pos c]
      have e2 : lookD (p :: kvs) (enc k) = some p.2 := by unfold lookD; rw [e]; simp [c]
      rw [e2]
      exact ⟨fun d h => by cases h; exact ⟨_, F1, rfl, r1, fun a ha => List.mem_append_left _ ha⟩, fun h => (by cases h)⟩
    · rw [valV_neg c]
      have e2 : lookD (p :: kvs) (enc k) = lookD kvs (enc k) := by rw [lookD]; rw [e]; simp [c]
      rw [e2]
      exact ⟨fun d h => let ⟨v, G, z1, z2, z3⟩ := h1 d h; ⟨v, G, z1, z2, fun a ha => List.mem_append_right _ (z3 a ha)⟩, h2⟩
theorem hasD_look (k : D) : ∀ kvs : List (D × D), hasD kvs k = (lookD kvs k).isSome
  | [] => rfl
  | p :: r => by
    unfold hasD lookD
    by_cases c : kEq p.1 k = true
    · rw [c]; rfl
    · rw [if_neg c, hasD_look k r]
      rw [Bool.not_eq_true] at c
      rw [c]; rfl
theorem DRel.has (he : ∀ a b, kEq (enc a) (enc b) = decide (a = b)) {kvs : List (D × D)} {ws : List (κ × V)} {F : List Addr} (r : DRel K Z H enc kvs ws F) (k : κ) : (valV ws k).isSome = hasD kvs (enc k) := by
  rw [hasD_look]
  obtain ⟨h1, h2⟩ := r.look he k
  cases c : lookD kvs (enc k) with
  | none => rw [h2 c]; rfl
  | some d => obtain ⟨v, G, z, _⟩ := h1 d c; rw [z]; rfl
theorem DRel.repl (he : ∀ a b, kEq (enc a) (enc b) = decide (a = b)) {k : κ} {d : D} {v : V} (rv : R K Z H d v []) : ∀ {kvs : List (D × D)} {ws : List (κ × V)}, DRel K Z H enc kvs ws [] →
    DRel K Z H enc (replD kvs (enc k) d) (ws.map fun kv => if kv.1 = k then (kv.1, v) else kv) []
  | [], ws, r => by rw [r.nil_]; exact ⟨rfl, .nil⟩
  | p :: kvs, ws, r => by
    obtain ⟨q, qs, F1, F2, rfl, k1, e0, r1, r2⟩ := r.uncons
    obtain ⟨e1, e2⟩ := app_eq_nil e0.symm
    subst e1 e2
    have e : kEq p.1 (enc k) = decide (q.1 = k) := by rw [k1, he]
    have ih := DRel.repl he rv r2 (k := k)
    unfold replD at ih ⊢
    rw [List.map_cons, List.map_cons, e]
    by_cases c : q.1 = k
    · rw [if_pos (decide_eq_true c), if_pos c]; exact .cons0 k1 rv ih
    · rw [if_neg (by simpa using c), if_neg c]; exact .cons0 k1 r1 ih
theorem DRel.put (he : ∀ a b, kEq (enc a) (enc b) = decide (a = b)) {k : κ} {d : D} {v : V} (rv : R K Z H d v []) {kvs : List (D × D)} {ws : List (κ × V)} (r : DRel K Z H enc kvs ws []) :
    DRel K Z H enc (putD kvs (enc k) d) (putK ws k v) [] := by
  have e : (ws.any fun kv => decide (kv.1 = k)) = hasD kvs (enc k) := by rw [valV_any, r.has he k]
  unfold putD putK
  rw [e]
  by_cases c : hasD kvs (enc k) = true
  · rw [if_pos c, if_pos c]; exact r.repl he rv
  · rw [if_neg c, if_neg c]
    refine ⟨by rw [List.map_append, List.map_append, r.ks]; rfl, ?_⟩
    rw [List.map_append, List.map_append]
    exact Rs.app (F := []) (G := []) r.rs (Rs.one rv)
theorem DRel.del (he : ∀ a b, kEq (enc a) (enc b) = decide (a = b)) {k : κ} : ∀ {kvs : List (D × D)} {ws : List (κ × V)}, DRel K Z H enc kvs ws [] → DRel K Z H enc (delD kvs (enc k)) (dropK ws k) []
  | [], ws, r => by rw [r.nil_]; exact ⟨rfl, .nil⟩
  | p :: kvs, ws, r => by
    obtain ⟨q, qs, F1, F2, rfl, k1, e0, r1, r2⟩ := r.uncons
    obtain ⟨e1, e2⟩ := app_eq_nil e0.symm
    subst e1 e2
    have e : kEq p.1 (enc k) = decide (q.1 = k) := by rw [k1, he]
    have ih := DRel.del he r2 (k := k)
    unfold delD dropK at ih ⊢
    rw [List.filter_cons, List.filter_cons, e]
    by_cases c : q.1 = k
    · simp only [c, decide_true, Bool.not_true, ne_eq, not_true_eq_false, decide_false]; exact ih
    · simp only [c, decide_false, Bool.not_false, ne_eq, not_false_eq_true, decide_true]; exact .cons0 k1 r1 ih

/-- a dict that is read -/
theorem R.dct_rd {o : Bool} {kvs : List (D × D)} {v : V} {F : List Addr} (r : R K Z H (.dct o false kvs) v F) : ∃ a ws G, v = .ref a ∧ Rd H a (.dK ws) ∧ DRel K Z H kD kvs ws G ∧ ∀ b ∈ G, b ∈ F := by
  cases r with
  | dow h rs =>
    obtain ⟨ob, h1, ws, rfl, h2, rfl⟩ := h
    exact ⟨_, ws, _, rfl, .inl h1, ⟨h2, rs⟩, fun b hb => List.mem_cons_of_mem _ hb⟩
  | dfz h z rs =>
    obtain ⟨ob, h1, ws, rfl, h2, rfl⟩ := h
    exact ⟨_, ws, _, rfl, .inl h1, ⟨h2, rs⟩, fun b hb => hb⟩
  | dlk h rs =>
    obtain ⟨od, ob, h1, ws, rfl, h2, rfl⟩ := h
    exact ⟨_, ws, _, rfl, .inr ⟨od, h1⟩, ⟨h2, rs⟩, fun b hb => hb⟩
theorem R.dct_ow {kvs : List (D × D)} {v : V} {F : List Addr} (r : R K Z H (.dct true false kvs) v F) : ∃ a ws G, v = .ref a ∧ F = a :: G ∧ H a = some (.dK ws) ∧ DRel K Z H kD kvs ws G := by
  cases r with
  | dow h rs =>
    obtain ⟨ob, h1, ws, rfl, h2, rfl⟩ := h
    exact ⟨_, ws, _, rfl, rfl, h1, ⟨h2, rs⟩⟩
theorem DRel.at {a : Addr} {kvs : List (D × D)} {ws : List (Key × V)} {F : List Addr} (h : H a = some (.dK ws)) (r : DRel K Z H kD kvs ws F) : R K Z H (.dct true false kvs) (.ref a) (a :: F) :=
  .dow ⟨_, h, ws, rfl, r.ks, rfl⟩ r.rs
def keysOf : List D → Option (List Key)
  | [] => some []
  | d :: r => (keyOf d).bind fun k => (keysOf r).map (k :: ·)
def encT (ks : List Key) : D := .tup (ks.map kD)
def keyT : D → Option (List Key)
  | .tup l => keysOf l
  | _ => none
theorem keysOf_some : ∀ {l : List D} {ks : List Key}, keysOf l = some ks → l = ks.map kD
  | [], ks, h => by cases h; rfl
  | d :: r, ks, h => by
    unfold keysOf at h
    obtain ⟨k, h1, h⟩ := Option.bind_eq_some_iff.mp h
    obtain ⟨js, h2, rfl⟩ := Option.map_eq_some_iff.mp h
    rw [keyOf_some h1, keysOf_some h2]
    rfl
theorem keyT_some {d : D} {ks : List Key} (h : keyT d = some ks) : d = encT ks := by
  unfold keyT at h
  split at h
  · rw [keysOf_some h]; rfl
  · cases h
theorem kE_kD (a b : Key) : kE (kD a) (kD b) = decide (a = b) := by
  cases a <;> cases b <;> simp [kE, kD]
theorem kEs_kD : ∀ a b : List Key, kEs (a.map kD) (b.map kD) = decide (a = b)
  | [], [] => by simp [kEs]
  | [], _ :: _ => by simp [kEs]
  | _ :: _, [] => by simp [kEs]
  | a :: r, b :: s => by
    simp only [List.map_cons, kEs, kE_kD, kEs_kD r s]
    by_cases h1 : a = b <;> by_cases h2 : r = s <;> simp [h1, h2]
theorem kEq_encT (a b : List Key) : kEq (encT a) (encT b) = decide (a = b) := kEs_kD a b
theorem Rs.keys : ∀ {ks : List Key} {vs : List V} {F : List Addr}, Rs K Z H (ks.map kD) vs F → vs = ks.map kV
  | [], vs, F, r => by cases r; rfl
  | k :: ks, vs, F, r => by
    obtain ⟨v, ws, F1, F2, rfl, _, r1, rs⟩ := Rs.uncons (show Rs K Z H (kD k :: ks.map kD) vs F from r)
    rw [Rs.keys rs]
    cases k with
    | inl i => rw [show v = V.int i from R.int_inv r1]; rfl
    | inr s => rw [show v = V.str s from R.str_inv r1]; rfl
theorem R.keyT {d : D} {k : List Key} {v : V} {F : List Addr} (h : Vl.keyT d = some k) (r : R K Z H d v F) : ∃ b, v = .ref b ∧ H b = some (.tup (k.map kV)) ∧ d = encT k := by
  have e := keyT_some h
  subst e
  unfold encT at r
  cases r with
  | tup h1 rs => exact ⟨_, rfl, by rw [← Rs.keys rs]; exact h1, rfl⟩
theorem R.dctT_rd {o : Bool} {kvs : List (D × D)} {v : V} {F : List Addr} (r : R K Z H (.dct o true kvs) v F) : ∃ a ws G, v = .ref a ∧ Rd H a (.dT ws) ∧ DRel K Z H encT kvs ws G ∧ ∀ b ∈ G, b ∈ F := by
  cases r with
  | dow h rs =>
    obtain ⟨ob, h1, ws, rfl, h2, rfl⟩ := h
    exact ⟨_, ws, _, rfl, .inl h1, ⟨h2, rs⟩, fun b hb => List.mem_cons_of_mem _ hb⟩
  | dfz h z rs =>
    obtain ⟨ob, h1, ws, rfl, h2, rfl⟩ := h
    exact ⟨_, ws, _, rfl, .inl h1, ⟨h2, rs⟩, fun b hb => hb⟩
  | dlk h rs =>
    obtain ⟨od, ob, h1, ws, rfl, h2, rfl⟩ := h
    exact ⟨_, ws, _, rfl, .inr ⟨od, h1⟩, ⟨h2, rs⟩, fun b hb => hb⟩
theorem R.dctT_ow {kvs : List (D × D)} {v : V} {F : List Addr} (r : R K Z H (.dct true true kvs) v F) : ∃ a ws G, v = .ref a ∧ F = a :: G ∧ H a = some (.dT ws) ∧ DRel K Z H encT kvs ws G := by
  cases r with
  | dow h rs =>
    obtain ⟨ob, h1, ws, rfl, h2, rfl⟩ := h
    exact ⟨_, ws, _, rfl, rfl, h1, ⟨h2, rs⟩⟩
theorem DRel.atT {a : Addr} {kvs : List (D × D)} {ws : List (List Key × V)} {F : List Addr} (h : H a = some (.dT ws)) (r : DRel K Z H encT kvs ws F) : R K Z H (.dct true true kvs) (.ref a) (a :: F) :=
  .dow ⟨_, h, ws, rfl, r.ks, rfl⟩ r.rs
theorem R.key {d : D} {k : Key} {v : V} {F : List Addr} (h : keyOf d = some k) (r : R K Z H d v F) : v = kV k ∧ d = kD k := by
  have e := keyOf_some h
  subst e
  refine ⟨?_, rfl⟩
  cases k with
  | inl i => exact r.int_inv
  | inr s => exact r.str_inv

/-! ### reading: lists, tuples, texts, dicts -/
def gDk (d e : D) : Option D := match d with
  | .dct _ false kvs => (keyOf e).bind fun _ => lookD kvs e
  | .dct _ true kvs => (keyT e).bind fun _ => lookD kvs e
  | _ => none
def rIxA (K : PySem.W.Frag) : R2 := fun x y H Q => rIx K x y H Q ∨ ∃ a v, x = .ref a ∧ DGet H a y (some v) ∧ Q v H
theorem ix_all {X : Cx} (hu : X.A.units + 1 < cLine) : IxR X (rIxA X.K) := IxR.or ix_seq fun value slice pins s σ H x y v u Q I rx ry h hs => by
  obtain ⟨a, w, rfl, g, q⟩ := h
  obtain rfl : v = Value.ref a := rx
  exact tail_any (dict_typeIs I g) PySem.F.slot_dict_getitem.lookup (d_getItem hu I g ry fun w' s3 I3 rw' => ⟨w, H, I3, rw', q⟩) hs
def gIxA (d e : D) : Option D := match d with
  | .dct _ _ _ => gDk d e
  | _ => gIx d e
theorem gDk_of {d e x : D} {v u : V} {F G : List Addr} (h : gDk d e = some x) (r1 : R K Z H d v F) (r2 : R K Z H e u G) : ∃ a w G', v = .ref a ∧ DGet H a u (some w) ∧ R K Z H x w G' ∧ ∀ b ∈ G', b ∈ F := by
  unfold gDk at h
  split at h
  · rename_i o kvs
    obtain ⟨k, hk, h⟩ := Option.bind_eq_some_iff.mp h
    obtain ⟨rfl, rfl⟩ := r2.key hk
    obtain ⟨a, ws, G', rfl, hr, dr, hs⟩ := r1.dct_rd
    obtain ⟨w, G2, z1, z2, z3⟩ := (dr.look kEq_kD k).1 x h
    exact ⟨a, w, G2, rfl, .inl ⟨ws, k, hr, rfl, z1.symm⟩, z2, fun b hb => hs b (z3 b hb)⟩
  · rename_i o kvs
    obtain ⟨k, hk, h⟩ := Option.bind_eq_some_iff.mp h
    obtain ⟨c, rfl, hc, rfl⟩ := R.keyT hk r2
    obtain ⟨a, ws, G', rfl, hr, dr, hs⟩ := r1.dctT_rd
    obtain ⟨w, G2, z1, z2, z3⟩ := (dr.look kEq_encT k).1 x h
    exact ⟨a, w, G2, rfl, .inr ⟨ws, k, c, hr, rfl, hc, z1.symm⟩, z2, fun b hb => hs b (z3 b hb)⟩
  · cases h
theorem os_ixA : OpW K (rIxA K) gIxA := fun Z H d1 d2 v1 v2 F1 F2 d Q r1 r2 hg q => by
  unfold gIxA at hg
  split at hg
  · obtain ⟨a, w, G', rfl, g, r, hs⟩ := gDk_of hg r1 r2
    exact .inr ⟨a, w, rfl, g, q w H G' (Keep.refl _ _) r hs⟩
  · exact .inl (os_ix Z H d1 d2 v1 v2 F1 F2 d Q r1 r2 hg q)
theorem pev_ixA {X : Cx} {T1 T2 O1 O2 : List Nat} {x1 x2 : Bool} {a b : Expr} {fa fb : M D} {pos : Pos} (hu : X.A.units + 1 < cLine) (ha : PEV X T1 O1 x1 a fa) (hb : PEV X T2 O2 x2 b fb) (hp : PlainIx b := by intro _ _; rfl) : PEV X (T1 ++ T2) O1 false (.Subscript a b pos) (fOp O1 T2 gIxA fa fb) :=
  pev_ix (hr := ix_all hu) os_ixA ha hb hp
/-- k in d -/
def rInK : R2 := fun y x H Q => ∃ a o, x = .ref a ∧ DGet H a y o ∧ Q (.bl o.isSome) H
def rNiK : R2 := fun y x H Q => ∃ a o, x = .ref a ∧ DGet H a y o ∧ Q (.bl (!o.isSome)) H
theorem op_inK {X : Cx} (hu : X.A.units + 1 < cLine) : OpR X (compareOp .In) rInK := fun pins s σ H x y v u Q I rx ry h => by
  obtain ⟨a, o, rfl, g, q⟩ := h
  obtain rfl : u = Value.ref a := ry
  exact d_in hu I g rx fun s3 I3 => ⟨.bl o.isSome, H, I3, rfl, q⟩
theorem op_niK {X : Cx} (hu : X.A.units + 1 < cLine) : OpR X (compareOp .NotIn) rNiK := fun pins s σ H x y v u Q I rx ry h => by
  obtain ⟨a, o, rfl, g, q⟩ := h
  obtain rfl : u = Value.ref a := ry
  exact d_notIn hu I g rx fun s3 I3 => ⟨.bl (!o.isSome), H, I3, rfl, q⟩
def rInA (K : PySem.W.Frag) : R2 := fun x y H Q => (rIn K false x y H Q ∨ rInK x y H Q) ∨ rInD K x y H Q
def rNiA (K : PySem.W.Frag) : R2 := fun x y H Q => (rIn K true x y H Q ∨ rNiK x y H Q) ∨ rNotInD K x y H Q
theorem op_inA {X : Cx} (hu : X.A.units + 65 < cLine) : OpR X (compareOp .In) (rInA X.K) := (op_in_seq.or (op_inK (by omega))).or (op_inD hu)
theorem op_niA {X : Cx} (hu : X.A.units + 65 < cLine) : OpR X (compareOp .NotIn) (rNiA X.K) := (op_notIn_seq.or (op_niK (by omega))).or (op_notInD hu)
def flatD : D → Bool
  | .non => true
  | .bl _ => true
  | .int _ => true
  | .str _ => true
  | _ => false
theorem flat_eq {d e : D} {v w : V} {F G : List Addr} (r1 : R K Z H d v F) (r2 : R K Z H e w G) (h1 : flatD d = true) (h2 : flatD e = true) : flatV v = true ∧ flatV w = true ∧ eqV v w = pyEq d e := by
  cases r1 <;> first | (cases h1; done) | skip
  all_goals (cases r2 <;> first | (cases h2; done) | exact ⟨rfl, rfl, by simp [eqV, pyEq, D.toP, PyData.eqv]⟩)
theorem flat_any {e : D} {w : V} {G : List Addr} (r2 : R K Z H e w G) (h2 : flatD e = true) : ∀ {ds : List D} {vs : List V} {F : List Addr}, Rs K Z H ds vs F → ds.all flatD = true → vs.all flatV = true ∧ inV w vs = ds.any fun z => pyEq z e
  | [], _, _, r, _ => by cases r; exact ⟨rfl, rfl⟩
  | d :: ds, vs, F, r, h => by
    rw [List.all_cons, Bool.and_eq_true] at h
    obtain ⟨v, ws, F1, F2, rfl, e2, r1, rs⟩ := r.uncons
    obtain ⟨a1, a2, a3⟩ := flat_eq r1 r2 h.1 h2
    obtain ⟨b1, b2⟩ := flat_any r2 h2 rs h.2
    refine ⟨by rw [List.all_cons, a1, b1]; rfl, ?_⟩
    unfold inV at b2 ⊢
    rw [List.any_cons, List.any_cons, a3, b2]
theorem toPL_any (e : PyData) : ∀ l : List D, (D.toPL l).any (fun z => PyData.eqv z e) = l.any fun z => PyData.eqv z.toP e
  | [] => by simp [D.toPL]
  | d :: r => by simp only [D.toPL, List.any_cons, toPL_any e r]
def inD (l : List D) (d : D) : Bool := l.any fun z => pyEq z d
/-- d in e -/
def isIn (d e : D) : Option Bool := match e with
  | .dct _ false kvs => (keyOf d).bind fun _ => some (hasD kvs d)
  | .dct _ true kvs => (keyT d).bind fun _ => some (hasD kvs d)
  | .lst _ l => if (eqOk d && eqOk e) = true then some (inD l d) else none
  | .scr l => if (eqOk d && eqOk e) = true then some (inD l d) else none
  | .tup l => if (flatD d && l.all flatD) = true then some (inD l d) else none
  | _ => none
theorem isIn_of {d e : D} {b : Bool} {v w : V} {F G : List Addr} (h : isIn d e = some b) (r1 : R K Z H d v F) (r2 : R K Z H e w G) :
    (∃ p xs, w = .ref p ∧ (SqL K H p xs ∨ SqT K H p xs) ∧ flatV v = true ∧ xs.all flatV = true ∧ inV v xs = b) ∨ (∃ a o, w = .ref a ∧ DGet H a v o ∧ o.isSome = b) ∨
    ∃ x ds, Dp K H v x ∧ Dp K H w (.list ds) ∧ SeqAt.shaped x = true ∧ SeqAt.shaped (.list ds) = true ∧ (ds.any fun z => PyData.eqv z x) = b := by
  unfold isIn at h
  split at h
  · rename_i o kvs
    obtain ⟨k, hk, h⟩ := Option.bind_eq_some_iff.mp h
    cases h
    obtain ⟨rfl, rfl⟩ := r1.key hk
    obtain ⟨a, ws, G', rfl, hr, dr, hs⟩ := r2.dct_rd
    exact .inr (.inl ⟨a, valV ws k, rfl, .inl ⟨ws, k, hr, rfl, rfl⟩, dr.has kEq_kD k⟩)
  · rename_i o kvs
    obtain ⟨k, hk, h⟩ := Option.bind_eq_some_iff.mp h
    cases h
    obtain ⟨c, rfl, hc, rfl⟩ := R.keyT hk r1
    obtain ⟨a, ws, G', rfl, hr, dr, hs⟩ := r2.dctT_rd
    exact .inr (.inl ⟨a, valV ws k, rfl, .inr ⟨ws, k, c, hr, rfl, hc, rfl⟩, dr.has kEq_encT k⟩)
  · rename_i o l
    split at h
    · rename_i hz
      cases h
      rw [Bool.and_eq_true] at hz
      exact .inr (.inr ⟨d.toP, D.toPL l, r1.dp (eqOk.eok hz.1), by simpa [D.toP] using r2.dp (eqOk.eok hz.2), eqOk.shaped hz.1, by simpa [D.toP] using eqOk.shaped hz.2, toPL_any _ _⟩)
    · cases h
  · rename_i l
    split at h
    · rename_i hz
      cases h
      rw [Bool.and_eq_true] at hz
      exact .inr (.inr ⟨d.toP, D.toPL l, r1.dp (eqOk.eok hz.1), by simpa [D.toP] using r2.dp (eqOk.eok hz.2), eqOk.shaped hz.1, by simpa [D.toP] using eqOk.shaped hz.2, toPL_any _ _⟩)
    · cases h
  · rename_i l
    split at h
    · rename_i hz
      cases h
      rw [Bool.and_eq_true] at hz
      obtain ⟨a, vs, rfl, hs, rs⟩ := r2.tup_inv
      obtain ⟨b1, b2⟩ := flat_any r1 hz.1 rs hz.2
      have b3 : flatV v = true := by cases r1 <;> first | rfl | (cases hz.1; done)
      exact .inl ⟨a, vs, rfl, .inr hs, b3, b1, b2⟩
    · cases h
  · cases h
def gIn (d e : D) : Option D := (isIn d e).map fun b => .bl b
def gNi (d e : D) : Option D := (isIn d e).map fun b => .bl (!b)
theorem os_in : OpS K (rInA K) gIn := OpS.here fun Z H d1 d2 v1 v2 F1 F2 d Q r1 r2 hg q => by
  obtain ⟨b, h, rfl⟩ := Option.map_eq_some_iff.mp hg
  rcases isIn_of h r1 r2 with ⟨p, xs, e1, e2, e3, e4, e5⟩ | ⟨a, o, e1, e2, e3⟩ | ⟨x, ds, e1, e2, e3, e4, e5⟩
  · subst e5; exact .inl (.inl ⟨p, xs, e1, e2, e3, e4, q _ (.bl _)⟩)
  · subst e3; exact .inl (.inr ⟨a, o, e1, e2, q _ (.bl _)⟩)
  · subst e5; exact .inr ⟨x, ds, e1, e2, e3, e4, q _ (.bl _)⟩
theorem os_ni : OpS K (rNiA K) gNi := OpS.here fun Z H d1 d2 v1 v2 F1 F2 d Q r1 r2 hg q => by
  obtain ⟨b, h, rfl⟩ := Option.map_eq_some_iff.mp hg
  rcases isIn_of h r1 r2 with ⟨p, xs, e1, e2, e3, e4, e5⟩ | ⟨a, o, e1, e2, e3⟩ | ⟨x, ds, e1, e2, e3, e4, e5⟩
  · subst e5; exact .inl (.inl ⟨p, xs, e1, e2, e3, e4, q _ (.bl _)⟩)
  · subst e3; exact .inl (.inr ⟨a, o, e1, e2, q _ (.bl _)⟩)
  · subst e5; exact .inr ⟨x, ds, e1, e2, e3, e4, q _ (.bl _)⟩

/-! ### writing an item -/
def StU (K : PySem.W.Frag) (r : TSet) (g : D → D → D → Option D) : Prop := ∀ (Z : Addr → Prop) (H : Hp) (d0 di dv d' : D) (v0 vi vv : V) (F0 Fi : List Addr) (Q : Hp → Prop),
  R K Z H d0 v0 F0 → F0.Nodup → (∀ a ∈ F0, ¬ Z a) → R K Z H di vi Fi → R K Z H dv vv [] → g d0 di dv = some d' →
  (∀ H' F0', Keep (fun a => a ∈ F0) H H' → R K Z H' d' v0 F0' → F0'.Nodup → (∀ a ∈ F0', a ∈ F0) → Q H') → r v0 vi vv H Q
def rSetA : TSet := fun o i v H Q => rSetL o i v H Q ∨ ∃ a H4, o = .ref a ∧ DPut H a i v H4 ∧ Q H4
theorem set_all {X : Cx} (hu : X.A.units + 1 < cLine) : PSet X rSetA := fun pins s σ H o i v ov iv u Q I ro ri rv h => by
  rcases h with h | ⟨a, H4, rfl, g, q⟩
  · exact set_list pins s σ H o i v ov iv u Q I ro ri rv h
  · obtain rfl : ov = Value.ref a := ro
    exact d_setItem hu I g ri rv fun s4 I4 => ⟨H4, I4, q⟩
def gSet (d0 di dv : D) : Option D := match d0, di with
  | .lst true l, .int i => if D.noOwnL l = true then (ixN l.length i).map fun j => .lst true (l.set j dv) else none
  | .dct true false kvs, k => (keyOf k).bind fun _ => if (D.noOwnP kvs && szOk kvs.length) = true then some (.dct true false (putD kvs k dv)) else none
  | .dct true true kvs, k => (keyT k).bind fun _ => if (D.noOwnP kvs && szOk kvs.length) = true then some (.dct true true (putD kvs k dv)) else none
  | _, _ => none
theorem st_set : StU K rSetA gSet := fun Z H d0 di dv d' v0 vi vv F0 Fi Q r0 nd nz ri rv hg q => by
  unfold gSet at hg
  split at hg
  · rename_i l i
    split at hg
    · rename_i hn
      obtain ⟨j, hj, rfl⟩ := Option.map_eq_some_iff.mp hg
      obtain ⟨a, ws, G, rfl, rfl, ha, ra⟩ := r0.own_inv
      have e0 := ra.no hn
      subst e0
      refine .inl ⟨a, ws, i, j, rfl, ri.int_inv, ha, by rw [← ra.length]; exact hj, ?_⟩
      have k : Keep (fun b => b = a) H (upd H a (.lst (ws.set j vv))) := Keep.wr ha trivial
      have hz : ∀ b, Z b → ¬ b = a := fun b z e => nz a List.mem_cons_self (by rw [← e]; exact z)
      refine q _ [a] (k.mono fun b e => by rw [e]; exact List.mem_cons_self) (.own upd_same ((Rs.set0 rv j ra).keep k (fun _ h => h) hz fun b hb => (by cases hb))) (by simp) fun b hb => hb
    · cases hg
  · rename_i kvs
    obtain ⟨k, hk, hg⟩ := Option.bind_eq_some_iff.mp hg
    split at hg
    · rename_i hn
      cases hg
      rw [Bool.and_eq_true] at hn
      obtain ⟨rfl, rfl⟩ := ri.key hk
      obtain ⟨a, ws, G, rfl, rfl, ha, dr⟩ := r0.dct_ow
      have e0 : G = [] := dr.rs.no (by rw [← noOwnP_eq]; exact hn.1)
      subst e0
      have hl : kvs.length = ws.length := by have := dr.rs.length; simpa using this
      refine .inr ⟨a, _, rfl, DPut.k ha (by rw [← hl]; exact sz_lt hn.2), ?_⟩
      have kp : Keep (fun b => b = a) H (upd H a (.dK (putK ws k vv))) := Keep.wr ha trivial
      have hz : ∀ b, Z b → ¬ b = a := fun b z e => nz a List.mem_cons_self (by rw [← e]; exact z)
      have dr2 := dr.put kEq_kD rv (k := k)
      refine q _ [a] (kp.mono fun b e => by rw [e]; exact List.mem_cons_self) (DRel.at upd_same ⟨dr2.ks, dr2.rs.keep kp (fun _ h => h) hz fun b hb => (by cases hb)⟩) (by simp) fun b hb => hb
    · cases hg
  · rename_i kvs
    obtain ⟨k, hk, hg⟩ := Option.bind_eq_some_iff.mp hg
    split at hg
    · rename_i hn
      cases hg
      rw [Bool.and_eq_true] at hn
      obtain ⟨c, rfl, hc, rfl⟩ := R.keyT hk ri
      obtain ⟨a, ws, G, rfl, rfl, ha, dr⟩ := r0.dctT_ow
      have e0 : G = [] := dr.rs.no (by rw [← noOwnP_eq]; exact hn.1)
      subst e0
      have hl : kvs.length = ws.length := by have := dr.rs.length; simpa using this
      refine .inr ⟨a, _, rfl, DPut.t ha hc (by rw [← hl]; exact sz_lt hn.2), ?_⟩
      have kp : Keep (fun b => b = a) H (upd H a (.dT (putK ws k vv))) := Keep.wr ha trivial
      have hz : ∀ b, Z b → ¬ b = a := fun b z e => nz a List.mem_cons_self (by rw [← e]; exact z)
      have dr2 := dr.put kEq_encT rv (k := k)
      refine q _ [a] (kp.mono fun b e => by rw [e]; exact List.mem_cons_self) (DRel.atT upd_same ⟨dr2.ks, dr2.rs.keep kp (fun _ h => h) hz fun b hb => (by cases hb)⟩) (by simp) fun b hb => hb
    · cases hg
  · cases hg
/-- name[index] as a target -/
def gSt (i : Nat) (fi : M D) : D → Env → Option Env := fun v ρ => (Env.at ρ i).bind fun _ => (fi ρ).bind fun p => (Env.at p.2 i).bind fun o => (gSet o p.1 v).bind fun d' => some (p.2.set i (some d'))
end
section
variable {X : Cx} {T T1 T2 O O1 O2 : List Nat} {x x1 x2 : Bool} {e ix : Expr} {fi fe : M D} {pos npos : Pos} {y : Str}
theorem pgv_sub (i : Nat) (hu : X.A.units + 1 < cLine) (hi : PEV X T O x ix fi)
    (hN : X.N[i]? = some y := by rfl) (hv : Vis X.env.scope y := by first | exact Or.inl rfl | exact Or.inr (Or.inl rfl) | exact Or.inr (Or.inr rfl)) (hd : (y == ("__debug__" : Str)) = false := by decide) (hcd : (y == ("__classdict__" : Str)) = false := by decide)
    (ha : ∀ v, assign (.Subscript (.Name y npos) ix pos) X.env v = (do
      let ov ← holding [v] (eval (.Name y npos) X.env)
      let iv ← holding [v, ov] (eval ix X.env)
      standAt pos
      holding [v, ov, iv] (setItem ov iv v)
      release [v, ov, iv] []) := by intro _; rfl) : PGV X [] (T ++ [i]) (.Subscript (.Name y npos) ix pos) (gSt i fi) := by
  refine PG.imp (pg_sub (pe_var hN hv hd hcd) hi (set_all hu) ha) fun v σ H Q h => ?_
  obtain ⟨Z, ρ, Fs, d, ρ', rel, rd, hg, q⟩ := h
  unfold gSt at hg
  obtain ⟨o0, h0, hg⟩ := Option.bind_eq_some_iff.mp hg
  obtain ⟨⟨di, ρ1⟩, h1, hg⟩ := Option.bind_eq_some_iff.mp hg
  obtain ⟨o, h2, hg⟩ := Option.bind_eq_some_iff.mp hg
  obtain ⟨d', h3, hg⟩ := Option.bind_eq_some_iff.mp hg
  cases hg
  obtain ⟨v0, hv0, r0⟩ := rel.at_ i o0 (Env.at_some h0)
  refine ⟨v0, hv0, Z, ρ, Fs, di, ρ1, rel, h1, fun vi H1 Z1 Fs1 F rel1 f1 w1 c1 => ?_⟩
  have hio := Env.at_some h2
  obtain ⟨v1, hv1, r1⟩ := rel1.at_ i o hio
  rw [hv0] at hv1
  cases hv1
  have rd1 : R X.K Z1 H1 d v [] := rd.keep f1.keep f1.zz (fun a z ⟨j, hj, ha⟩ => rel.nz j a ha z) fun _ h => (by cases h)
  refine st_set Z1 H1 o di d d' v0 vi v (Fs1 i) F (fun H3 => Q σ H3) r1 (rel1.nd i) (fun a ha => rel1.nz i a ha) w1.r rd1 h3 fun H' F0' k rd' nd cf => ?_
  obtain ⟨e1, e2, e3, e4, e5⟩ := mut_end (F := []) (F' := []) rel1 f1 Cf.nil (fun j a h => (by cases h)) (fun a h => (by cases h)) hv0 (Env.lt hio) k rd' (by rw [List.nil_append]; exact nd) (fun a ha => .inl (cf a ha))
  exact q _ _ _ _ ⟨e1, e2, fun _ _ => rfl, rfl⟩
/-- name[index] op= value -/
def rGetA (K : PySem.W.Frag) : V → V → Hp → VK → Prop := fun o i H Q => (∃ p xs k v, o = .ref p ∧ i = .int k ∧ SqL K H p xs ∧ atI xs k = some v ∧ Q v H) ∨ ∃ a v, o = .ref a ∧ DGet H a i (some v) ∧ Q v H
theorem get_all (hu : X.A.units + 1 < cLine) : PGet X (rGetA X.K) := fun pins s σ H o i ov iv Q I ro ri h => by
  rcases h with ⟨p, xs, k, w, rfl, rfl, hq, he, q⟩ | ⟨a, w, rfl, g, q⟩
  · obtain rfl : ov = Value.ref p := ro
    obtain ⟨t, rfl⟩ := (show ∃ t, iv = Value.int k t from ri)
    obtain ⟨its, r, pl, hz⟩ := I.list hq
    obtain ⟨j, h1, h2, h3, h4, h5⟩ := atI_get he
    obtain ⟨u, eu, ru⟩ := r.get h2
    have hl := r.length
    have hn := line63
    by_cases h0 : 0 ≤ k
    · have hj : k.toNat = j := by
        rw [seqIndex_of h0 h5] at h1
        exact Option.some.inj h1
      exact wpAny_getItem_list pl.isList h0 (by omega) (by rw [hj]; simpa using eu) ⟨w, H, I, ru, q⟩
    · have hj : (k + (its.toArray.size : Int)).toNat = j := by
        rw [seqIndex_neg (by omega) h4] at h1
        rw [List.size_toArray, ← hl]
        exact Option.some.inj h1
      exact wpAny_getItem_list_neg pl.isList (by omega) (by rw [List.size_toArray] <;> omega) (by omega) (by rw [hj]; simpa using eu) ⟨w, H, I, ru, q⟩
  · obtain rfl : ov = Value.ref a := ro
    exact d_getItem hu I g ri fun w' s3 I3 rw' => ⟨w, H, I3, rw', q⟩
def gGet (d e : D) : Option D := match d with
  | .lst _ l => match e with
    | .int i => L2.atI l i
    | _ => none
  | _ => gDk d e
def sAugS (i : Nat) (g : D → D → Option D) (fi fe : M D) : MS := fun ρ => (Env.at ρ i).bind fun _ => (fi ρ).bind fun p => (Env.at p.2 i).bind fun o => if p.1.noOwn = true then (gGet o p.1).bind fun d => if d.noOwn = true then
  (fe p.2).bind fun q => (g d q.1).bind fun z => if z.noOwn = true then (Env.at q.2 i).bind fun o2 => (gSet o2 p.1 z).bind fun d' => some (.nx (q.2.set i (some d'))) else none else none else none
theorem psv_augS (i : Nat) {op : Operator} {ti : TIp} {g : D → D → Option D} (hu : X.A.units + 1 < cLine) (ho : PIp X op ti) (hs : OpS X.K ti g) (hi : PEV X T1 O1 x1 ix fi) (he : PEV X T2 O2 x2 e fe)
    (hN : X.N[i]? = some y := by rfl) (hv : Vis X.env.scope y := by first | exact Or.inl rfl | exact Or.inr (Or.inl rfl) | exact Or.inr (Or.inr rfl)) (hd : (y == ("__debug__" : Str)) = false := by decide) (hcd : (y == ("__classdict__" : Str)) = false := by decide)
    (ha : ∀ ov iv new, augStore ix ov iv new = (do holding [new, ov, iv] (setItem ov iv new); release [new, ov, iv] []; pure .next) := by intros; rfl) :
    PSV X [] ((T1 ++ T2) ++ [i]) (.AugAssign (.Subscript (.Name y npos) ix pos) op e p2) (sAugS i g fi fe) := by
  refine PS.imp (ps_augS (pe_var hN hv hd hcd) hi (get_all hu) he ho (set_all hu) ha) fun D σ H h => ?_
  obtain ⟨Z, ρ, Fs, r, rel, hf, k1, k2, k3, k4⟩ := h
  unfold sAugS at hf
  obtain ⟨o0, h0, hf⟩ := Option.bind_eq_some_iff.mp hf
  obtain ⟨⟨di, ρ1⟩, h1, hf⟩ := Option.bind_eq_some_iff.mp hf
  obtain ⟨o, h2, hf⟩ := Option.bind_eq_some_iff.mp hf
  split at hf
  · rename_i hni
    obtain ⟨d, h3, hf⟩ := Option.bind_eq_some_iff.mp hf
    split at hf
    · rename_i hnd
      obtain ⟨⟨de, ρ2⟩, h4, hf⟩ := Option.bind_eq_some_iff.mp hf
      obtain ⟨z, h5, hf⟩ := Option.bind_eq_some_iff.mp hf
      split at hf
      · rename_i hnz
        obtain ⟨o2, h6, hf⟩ := Option.bind_eq_some_iff.mp hf
        obtain ⟨d', h7, hf⟩ := Option.bind_eq_some_iff.mp hf
        cases hf
        obtain ⟨v0, hv0, r0⟩ := rel.at_ i o0 (Env.at_some h0)
        refine ⟨v0, hv0, Z, ρ, Fs, di, ρ1, rel, h1, fun vi H1 Z1 Fs1 F1 rel1 f1 w1 c1 => ?_⟩
        obtain ⟨v1, hv1, r1⟩ := rel1.at_ i o (Env.at_some h2)
        rw [hv0] at hv1
        cases hv1
        have go : ∀ (w : V) (G : List Addr), R X.K Z1 H1 d w G → tV X.K T2 O2 x2 fe σ H1 fun y H4 => ti w y H4 fun z' H5 => rSetA v0 vi z' H5 fun H6 => D.nx σ H6 := fun w G rw' => by
          have e0 := rw'.no hnd
          subst e0
          refine ⟨Z1, ρ1, Fs1, de, ρ2, rel1, h4, fun ve H2 Z2 Fs2 F2 rel2 f2 w2 c2 => ?_⟩
          have hM : ∀ a, Z1 a → ¬ ∃ j ∈ T2, a ∈ Fs1 j := fun a z ⟨j, hj, ha⟩ => rel1.nz j a ha z
          have wd := rw'.keep f2.keep f2.zz hM fun _ h => (by cases h)
          refine hs Z2 H2 d de w ve [] F2 z _ wd w2.r h5 fun vz H3 F3 kz rz ndz cz => ?_
          have e3 := rz.no hnz
          subst e3
          have rel3 := rel2.keep0 kz
          have f3 := (f1.trans f2).trans (Frm.pureT [] kz)
          rw [List.append_nil] at f3
          obtain ⟨v2, hv2, r2⟩ := rel3.at_ i o2 (Env.at_some h6)
          rw [hv0] at hv2
          cases hv2
          have e4 := w1.r.no hni
          have wi := w1.r
          rw [e4] at wi
          have wi2 := (wi.keep f2.keep f2.zz hM fun _ h => (by cases h)).keep0 kz
          refine st_set Z2 H3 o2 di z d' v0 vi vz (Fs2 i) [] _ r2 (rel3.nd i) (fun a ha => rel3.nz i a ha) wi2 rz h7 fun H' F0' k rd' nd cf => ?_
          obtain ⟨e1, e2, _, _, _⟩ := mut_end (F := []) (F' := []) rel3 f3 Cf.nil (fun j a h => (by cases h)) (fun a h => (by cases h)) hv0 (Env.lt (Env.at_some h6)) k rd' (by rw [List.nil_append]; exact nd) (fun a ha => .inl (cf a ha))
          exact k1 _ rfl _ _ _ _ ⟨e1, e2, fun _ _ => rfl, rfl⟩
        unfold gGet at h3
        split at h3
        · rename_i ow l
          split at h3
          · rename_i k hdi
            simp only at hdi
            subst hdi
            obtain ⟨a, vs, G0, rfl, ha', rs, hs'⟩ := r1.lst_at
            obtain ⟨w, G, z1, z2, z3⟩ := rs.atI h3
            exact .inl ⟨a, vs, k, w, rfl, w1.r.int_inv, ha', z1, go w G z2⟩
          · cases h3
        · obtain ⟨a, w, G', rfl, g', rr, hs'⟩ := gDk_of h3 r1 w1.r
          exact .inr ⟨a, w, rfl, g', go w G' rr⟩
      · cases hf
    · cases hf
  · cases hf
end
end Vl

namespace Vl
open PySem PySem.Spec PyProof.Rows L2

theorem runF_ok {np m n : Nat} {b : MS} : ∀ ds r, runF np m n b ds = some r → ds.length = np ∧ r.2.length = m := fun ds r h => by
  unfold runF at h
  split at h
  · rename_i hl
    refine ⟨hl, ?_⟩
    obtain ⟨q, h1, h⟩ := Option.bind_eq_some_iff.mp h
    cases q with
    | rt d ρ =>
      obtain ⟨es, h2, h⟩ := Option.bind_eq_some_iff.mp h
      cases h
      exact outs_len h2
    | nx ρ =>
      obtain ⟨es, h2, h⟩ := Option.bind_eq_some_iff.mp h
      cases h
      exact outs_len h2
    | bk ρ => cases h
    | ct ρ => cases h
  · cases h
section
variable {K : PySem.W.Frag}
theorem os_ipI {f : Int → Int → Int} : OpS K (ipI f) (gI fun i j => .int (f i j)) := OpS.here fun Z H d1 d2 v1 v2 F1 F2 d Q r1 r2 hg q => by
  unfold gI at hg
  split at hg
  · cases hg
    exact ⟨_, _, r1.int_inv, r2.int_inv, q _ (.int _)⟩
  · cases hg
end
def gAddI : D → D → Option D := gI fun i j => .int (i + j)
def fIsN (c : String) (f : M D) : M D := fun ρ => (f ρ).bind fun p => if notLk p.1 = true then (kitB (tagOf p.1) c).bind fun b => some (.bl b, p.2) else none
/-- {} with keys that are ints or texts -/
def fDnew : M D := fun ρ => some (.dct true false [], ρ)
def fDnewT : M D := fun ρ => some (.dct true true [], ρ)
theorem pev_dnew {X : Cx} {pos : Pos} : PEV X [] [] true (.Dict [] [] pos) fDnew := by
  refine PE.imp pe_dnewK fun σ H Q h => ?_
  obtain ⟨Z, ρ, Fs, d, ρ', rel, hf, q⟩ := h
  cases hf
  intro p hp
  have k : Keep M0 H (upd H p (.dK [])) := Keep.new hp
  have f := Frm.pureT (ρ := ρ) (Fs := Fs) (Z := Z) [] k
  exact q _ _ Z Fs [p] (rel.keep0 k) f (Val.new rel (.dow ⟨_, upd_same, [], rfl, rfl, rfl⟩ .nil) (by simp) fun a ha => by rw [List.mem_singleton.mp ha]; exact hp) (Cf.new (Keep.refl M0 _) fun a ha => by rw [List.mem_singleton.mp ha]; exact hp)
theorem pev_dnewT {X : Cx} {pos : Pos} : PEV X [] [] true (.Dict [] [] pos) fDnewT := by
  refine PE.imp pe_dnewT fun σ H Q h => ?_
  obtain ⟨Z, ρ, Fs, d, ρ', rel, hf, q⟩ := h
  cases hf
  intro p hp
  have k : Keep M0 H (upd H p (.dT [])) := Keep.new hp
  have f := Frm.pureT (ρ := ρ) (Fs := Fs) (Z := Z) [] k
  exact q _ _ Z Fs [p] (rel.keep0 k) f (Val.new rel (.dow ⟨_, upd_same, [], rfl, rfl, rfl⟩ .nil) (by simp) fun a ha => by rw [List.mem_singleton.mp ha]; exact hp) (Cf.new (Keep.refl M0 _) fun a ha => by rw [List.mem_singleton.mp ha]; exact hp)
/-- an exclusive value's owned things are frozen -/
def fFz (f : M D) : M D := fun ρ => (f ρ).bind fun p => some (p.1.frz, p.2)
theorem pev_frz {X : Cx} {T : List Nat} {e : Expr} {f : M D} (h : PEV X T [] true e f) : PEV X T [] true e (fFz f) := by
  refine PE.imp h fun σ H Q h => ?_
  obtain ⟨Z, ρ, Fs, d, ρ', rel, hf, q⟩ := h
  unfold fFz at hf
  obtain ⟨⟨d1, ρ1⟩, h1, hf⟩ := Option.bind_eq_some_iff.mp hf
  cases hf
  refine ⟨Z, ρ, Fs, d1, ρ1, rel, h1, fun v H' Z' Fs' F rel' f' w c => ?_⟩
  obtain ⟨nd, nz⟩ := w.exc rfl
  have far : ∀ i a, a ∈ F → a ∉ Fs' i := fun i a h1 h2 => absurd (w.ori i a h1 h2) (by simp)
  have rel2 : Rel X.K (fun a => Z' a ∨ a ∈ F) ρ1 σ H' Fs' := ⟨fun i d e => let ⟨v, h1, h2⟩ := rel'.at_ i d e; ⟨v, h1, h2.keep (Keep.refl M0 _) (fun _ h => .inl h) (fun _ _ h => h) fun _ _ h => h⟩, rel'.nd, rel'.dj,
    fun i a h z => z.elim (rel'.nz i a h) fun z => far i a z h, fun a h => h.elim (rel'.zt a) (w.r.tr a), rel'.ft, rel'.len⟩
  refine q v H' _ Fs' [] rel2 ⟨f'.sub, f'.keep, f'.c1, fun a h => h.elim (f'.c3 a) fun h => (c rfl a h).elim (fun z => .inr (.inl z)) fun z => .inr (.inr z), fun a h => .inl (f'.zz a h), f'.len⟩ ⟨w.r.freeze (fun _ h => .inl h) fun a h => .inr h, fun _ _ h => (by cases h), fun _ => ⟨List.nodup_nil, fun _ h => (by cases h)⟩⟩ Cf.nil
end Vl

namespace Vl
open PySem PySem.Spec PyProof.Rows L2

/-! ### a dict is locked while a walk over it runs -/
def IsDc : HO → Prop
  | .dK _ => True
  | .dT _ => True
  | _ => False
section
variable {K : PySem.W.Frag} {Z Z' : Addr → Prop} {H H' : Hp} {a : Addr} {u : HO} {od : Obj} {ρ ρ' : Env} {σ σ' : L2.St} {Fs Fs' : Ft} {W T : List Nat} {B : Addr → Prop}
theorem IsDc.mut (h : IsDc u) : Mut (some u) := by cases u <;> first | exact h.elim | trivial
theorem DcH.dc {t : Bool} {ks : List D} {vs : List V} {o : HO} (h : DcH t ks vs o) : IsDc o := by
  unfold DcH at h
  split at h
  · obtain ⟨ws, rfl, _⟩ := h; trivial
  · obtain ⟨ws, rfl, _⟩ := h; trivial
theorem sqt_lock {b : Addr} {xs : List V} (hu : IsDc u) (ha : H a = some u) (h : SqT K H b xs) : SqT K (upd H a (.frz od u)) b xs := by
  have ne : ∀ {o : HO}, H b = some o → (¬ IsDc o) → b ≠ a := fun h1 h2 e => by subst e; rw [ha] at h1; cases h1; exact h2 hu
  rcases h with (h | ⟨o, h⟩) | h
  · exact .inl (.inl (by rw [upd_ne (ne h id)]; exact h))
  · exact .inl (.inr ⟨o, by rw [upd_ne (ne h id)]; exact h⟩)
  · exact .inr h
theorem sqf_lock {b : Addr} {xs : List V} (hu : IsDc u) (ha : H a = some u) (h : SqF K H b xs) : SqF K (upd H a (.frz od u)) b xs := by
  rcases h with ⟨o, h⟩ | h
  · refine .inl ⟨o, ?_⟩
    rw [upd_ne fun e => by subst e; rw [ha] at h; cases h; exact hu]
    exact h
  · exact .inr h
mutual
theorem R.lock (hu : IsDc u) (ha : H a = some u) : ∀ {d : D} {v : V} {F : List Addr}, R K Z H d v F → a ∉ F → R K Z (upd H a (.frz od u)) d v F
  | _, _, _, .non, _ => .non
  | _, _, _, .bl b, _ => .bl b
  | _, _, _, .int i, _ => .int i
  | _, _, _, .str s, _ => .str s
  | _, _, _, .tup h r, n => .tup (by rw [upd_ne (fun e => by subst e; rw [ha] at h; cases h; exact hu)]; exact h) (Rs.lock hu ha r n)
  | _, _, _, .own h r, n => .own (by rw [upd_ne (fun e => n (by rw [e]; exact List.mem_cons_self))]; exact h) (Rs.lock hu ha r fun z => n (List.mem_cons_of_mem _ z))
  | _, _, _, .fzn h z r, n => .fzn (by rw [upd_ne (fun e => by subst e; rw [ha] at h; cases h; exact hu)]; exact h) z (Rs.lock hu ha r (by simp))
  | _, _, _, .knw h r, n => .knw (sqf_lock hu ha h) (Rs.lock hu ha r (by simp))
  | _, _, _, .dow h r, n => .dow (by
      obtain ⟨o, h1, h2⟩ := h
      exact ⟨o, by rw [upd_ne (fun e => n (by rw [e]; exact List.mem_cons_self))]; exact h1, h2⟩) (Rs.lock hu ha r fun z => n (List.mem_cons_of_mem _ z))
  | .dct _ t kvs, .ref b, _, .dfz h z r, n => by
    have r' := Rs.lock hu ha r (by simp)
    obtain ⟨o, h1, h2⟩ := h
    by_cases e : b = a
    · subst e
      rw [ha] at h1
      cases h1
      exact .dlk ⟨od, u, upd_same, h2⟩ r'
    · exact .dfz ⟨o, by rw [upd_ne e]; exact h1, h2⟩ z r'
  | _, _, _, .dlk h r, n => .dlk (by
      obtain ⟨o', o, h1, h2⟩ := h
      exact ⟨o', o, by rw [upd_ne (fun e => by subst e; rw [ha] at h1; cases h1; exact hu)]; exact h1, h2⟩) (Rs.lock hu ha r (by simp))
  | _, _, _, .xt h h1 h2 r, n => .xt (by rw [upd_ne (fun e => by subst e; rw [ha] at h; cases h; exact hu)]; exact h) h1 h2 (Rs.lock hu ha r n)
theorem Rs.lock (hu : IsDc u) (ha : H a = some u) : ∀ {ds : List D} {vs : List V} {F : List Addr}, Rs K Z H ds vs F → a ∉ F → Rs K Z (upd H a (.frz od u)) ds vs F
  | _, _, _, .nil, _ => .nil
  | _, _, _, .cons r rs, n => .cons (R.lock hu ha r fun z => n (List.mem_append_left _ z)) (Rs.lock hu ha rs fun z => n (List.mem_append_right _ z))
end
theorem sqt_unlk {b : Addr} {xs : List V} (hu : IsDc u) (ha : H a = some (.frz od u)) (h : SqT K H b xs) : SqT K (upd H a u) b xs := by
  rcases h with (h | ⟨o, h⟩) | h
  · exact .inl (.inl (by rw [upd_ne fun e => by subst e; rw [ha] at h; cases h]; exact h))
  · exact .inl (.inr ⟨o, by rw [upd_ne fun e => by subst e; rw [ha] at h; cases h; exact hu]; exact h⟩)
  · exact .inr h
theorem sqf_unlk {b : Addr} {xs : List V} (hu : IsDc u) (ha : H a = some (.frz od u)) (h : SqF K H b xs) : SqF K (upd H a u) b xs := by
  rcases h with ⟨o, h⟩ | h
  · exact .inl ⟨o, by rw [upd_ne fun e => by subst e; rw [ha] at h; cases h; exact hu]; exact h⟩
  · exact .inr h
mutual
theorem R.unlk (hu : IsDc u) (ha : H a = some (.frz od u)) (hz : Z a) : ∀ {d : D} {v : V} {F : List Addr}, R K Z H d v F → R K Z (upd H a u) d v F
  | _, _, _, .non => .non
  | _, _, _, .bl b => .bl b
  | _, _, _, .int i => .int i
  | _, _, _, .str s => .str s
  | _, _, _, .tup h r => .tup (by rw [upd_ne (fun e => by subst e; rw [ha] at h; cases h)]; exact h) (Rs.unlk hu ha hz r)
  | _, _, _, .own h r => .own (by rw [upd_ne (fun e => by subst e; rw [ha] at h; cases h)]; exact h) (Rs.unlk hu ha hz r)
  | _, _, _, .fzn h z r => .fzn (by rw [upd_ne (fun e => by subst e; rw [ha] at h; cases h)]; exact h) z (Rs.unlk hu ha hz r)
  | _, _, _, .knw h r => .knw (sqf_unlk hu ha h) (Rs.unlk hu ha hz r)
  | _, _, _, .dow h r => .dow (by
      obtain ⟨o, h1, h2⟩ := h
      exact ⟨o, by rw [upd_ne (fun e => by subst e; rw [ha] at h1; cases h1; exact h2.dc)]; exact h1, h2⟩) (Rs.unlk hu ha hz r)
  | _, _, _, .dfz h z r => .dfz (by
      obtain ⟨o, h1, h2⟩ := h
      exact ⟨o, by rw [upd_ne (fun e => by subst e; rw [ha] at h1; cases h1; exact h2.dc)]; exact h1, h2⟩) z (Rs.unlk hu ha hz r)
  | .dct _ t kvs, .ref b, _, .dlk h r => by
    have r' := Rs.unlk hu ha hz r
    obtain ⟨o', o, h1, h2⟩ := h
    by_cases e : b = a
    · subst e
      rw [ha] at h1
      cases h1
      exact .dfz ⟨u, upd_same, h2⟩ hz r'
    · exact .dlk ⟨o', o, by rw [upd_ne e]; exact h1, h2⟩ r'
  | _, _, _, .xt h h1 h2 r => .xt (by rw [upd_ne (fun e => by subst e; rw [ha] at h; cases h; exact hu)]; exact h) h1 h2 (Rs.unlk hu ha hz r)
theorem Rs.unlk (hu : IsDc u) (ha : H a = some (.frz od u)) (hz : Z a) : ∀ {ds : List D} {vs : List V} {F : List Addr}, Rs K Z H ds vs F → Rs K Z (upd H a u) ds vs F
  | _, _, _, .nil => .nil
  | _, _, _, .cons r rs => .cons (R.unlk hu ha hz r) (Rs.unlk hu ha hz rs)
end
theorem dom_upd {b : Addr} {o : HO} (h : H b ≠ none) : upd H a o b ≠ none := by
  by_cases e : b = a
  · subst e; rw [upd_same]; intro z; cases z
  · rw [upd_ne e]; exact h
theorem none_upd {b : Addr} {o : HO} (ha : H a ≠ none) (h : upd H a o b = none) : H b = none := by
  by_cases e : b = a
  · subst e; rw [upd_same] at h; cases h
  · rwa [upd_ne e] at h
theorem Rel.lock (hu : IsDc u) (ha : H a = some u) (rel : Rel K Z ρ σ H Fs) (hn : ∀ i, a ∉ Fs i) : Rel K Z ρ σ (upd H a (.frz od u)) Fs :=
  ⟨fun i d e => let ⟨v, h1, h2⟩ := rel.at_ i d e; ⟨v, h1, h2.lock hu ha (hn i)⟩, rel.nd, rel.dj, rel.nz, fun b h => dom_upd (rel.zt b h), fun i b h => dom_upd (rel.ft i b h), rel.len⟩
theorem Rel.unlk (hu : IsDc u) (ha : H a = some (.frz od u)) (hz : Z a) (rel : Rel K Z ρ σ H Fs) : Rel K Z ρ σ (upd H a u) Fs :=
  ⟨fun i d e => let ⟨v, h1, h2⟩ := rel.at_ i d e; ⟨v, h1, h2.unlk hu ha hz⟩, rel.nd, rel.dj, rel.nz, fun b h => dom_upd (rel.zt b h), fun i b h => dom_upd (rel.ft i b h), rel.len⟩
theorem Keep.unlk (hu : IsDc u) (ha : H a = some u) (k : Keep B (upd H a (.frz od u)) H') : Keep B H (upd H' a u) := by
  refine ⟨fun b o h n => ?_, fun b xs h => ?_, fun b o w h => ?_, fun b h => ?_⟩
  · by_cases e : b = a
    · subst e; rw [ha] at h; cases h; exact upd_same
    · rw [upd_ne e]; exact k.out b o (by rw [upd_ne e]; exact h) n
  · have e : b ≠ a := fun e => by subst e; rw [ha] at h; cases h; exact hu
    rw [upd_ne e]; exact k.tup b xs (by rw [upd_ne e]; exact h)
  · have e : b ≠ a := fun e => by subst e; rw [ha] at h; cases h; exact hu
    rw [upd_ne e]; exact k.frz b o w (by rw [upd_ne e]; exact h)
  · exact dom_upd (k.dom b (dom_upd h))
theorem Frm.unlk (hu : IsDc u) (ha : H a = some u) (f : Frm T Z ρ Fs (upd H a (.frz od u)) Z' ρ' Fs' H') : Frm T Z ρ Fs H Z' ρ' Fs' (upd H' a u) := by
  have nn : H a ≠ none := by rw [ha]; intro z; cases z
  exact ⟨f.sub, f.keep.unlk hu ha, fun j hj b hb => (f.c1 j hj b hb).imp id (none_upd nn), fun b h => (f.c3 b h).imp id fun h => h.imp id (none_upd nn), f.zz, f.len⟩
theorem Fin.unlk (hu : IsDc u) (ha : H a = some u) (hz : Z a) (f : Fin K W T Z ρ Fs σ (upd H a (.frz od u)) Z' ρ' Fs' σ' H') : H' a = some (.frz od u) ∧ Fin K W T Z ρ Fs σ H Z' ρ' Fs' σ' (upd H' a u) := by
  have e := f.frm.keep.frz a od u upd_same
  exact ⟨e, f.rel.unlk hu e (f.frm.zz a hz), f.frm.unlk hu ha, f.sg, f.sl⟩
theorem Val.unlk {O : List Nat} {x : Bool} {d : D} {v : V} {F : List Addr} (hu : IsDc u) (ha : H a = some (.frz od u)) (hz : Z a) (w : Val K Z H Fs O x d v F) : Val K Z (upd H a u) Fs O x d v F := ⟨w.r.unlk hu ha hz, w.ori, w.exc⟩
theorem Cf.unlk {x : Bool} {F : List Addr} (ha : H a = some u) (c : Cf T Fs (upd H a (.frz od u)) x F) : Cf T Fs H x F := fun h b hb => (c h b hb).imp id (none_upd (by rw [ha]; intro z; cases z))

/-- the slot's value is frozen -/
theorem ali_step {i : Nat} {d : D} (rel : Rel K Z ρ σ H Fs) (h : ρ[i]? = some (some d)) : Rel K (fun a => Z a ∨ a ∈ Fs i) (ρ.set i (some d.frz)) σ H (fun j => if j = i then [] else Fs j) ∧
    Frm [i] Z ρ Fs H (fun a => Z a ∨ a ∈ Fs i) (ρ.set i (some d.frz)) (fun j => if j = i then [] else Fs j) H := by
  obtain ⟨v, hs, r⟩ := rel.at_ i d h
  have hl := Env.lt h
  have r2 : R K (fun a => Z a ∨ a ∈ Fs i) H d.frz v [] := r.freeze (fun _ h => .inl h) fun a h => .inr h
  refine ⟨⟨fun j d e => ?_, (rel.drop i).nd, (rel.drop i).dj, fun j a h z => ?_, fun a h => ?_, (rel.drop i).ft, by rw [List.length_set]; exact rel.len⟩,
    ⟨fun j hj => ?_, Keep.refl _ _, fun j hj a h => ?_, fun a h => ?_, fun a h => .inl h, by rw [List.length_set]⟩⟩
  · by_cases p : j = i
    · subst p
      rw [List.getElem?_set_self hl] at e
      cases e
      simp only [if_pos rfl]
      exact ⟨v, hs, r2⟩
    · rw [List.getElem?_set_ne (Ne.symm p)] at e
      simp only [if_neg p]
      obtain ⟨v', h1, h2⟩ := rel.at_ j d e
      exact ⟨v', h1, h2.keep (Keep.refl M0 H) (fun _ h => .inl h) (fun _ _ h => h) fun _ _ h => h⟩
  · by_cases p : j = i
    · simp [p] at h
    · simp only [if_neg p] at h
      exact z.elim (rel.nz j a h) fun z => p (rel.dj j i a h z)
  · exact h.elim (rel.zt a) (rel.ft i a)
  · have p : j ≠ i := fun e => hj (by rw [e]; exact List.mem_cons_self)
    exact ⟨if_neg p, List.getElem?_set_ne (Ne.symm p)⟩
  · have e : j = i := by simpa using hj
    subst e
    simp at h
  · exact h.elim .inl fun h => .inr (.inl ⟨i, List.mem_cons_self, h⟩)

/-! ### walks over the dict of a slot -/
def iKy (i : Nat) : M (List D) := fun ρ => (Env.at ρ i).bind fun d => match d with
  | .dct false _ kvs => some (kvs.map (·.1), ρ)
  | _ => none
def Lkd (i : Nat) (σ : L2.St) (H : Hp) : Prop := ∃ d od u, σ[i]? = some (some (.ref d)) ∧ H d = some (.frz od u) ∧ IsDc u
def tVIk (K : PySem.W.Frag) (i : Nat) : TI := fun σ H Rk => Lkd i σ H ∧ tVI K [] [] (iKy i) σ H Rk
end
section
variable {X : Cx} {T O W Wg Tg Wb Tb Tt Te : List Nat} {x : Bool} {tg iter elt e : Expr} {ifs : List Expr} {bd : List Stmt} {pos npos : Pos} {y : Str} {g : D → Env → Option Env} {sb : MS} {ft : M Bool} {fe : M D}
theorem rs_keys {K : PySem.W.Frag} {Z : Addr → Prop} {H : Hp} (k : Key) : R K Z H (kD k) (kV k) [] := by
  cases k with
  | inl i => exact .int i
  | inr s => exact .str s
theorem rs_keyss {K : PySem.W.Frag} {Z : Addr → Prop} {H : Hp} : ∀ ks : List Key, Rs K Z H (ks.map kD) (ks.map kV) []
  | [] => .nil
  | k :: r => .cons0 (rs_keys k) (rs_keyss r)
theorem piv_key (i : Nat) (hN : X.N[i]? = some y := by rfl) (hv : Vis X.env.scope y := by first | exact Or.inl rfl | exact Or.inr (Or.inl rfl) | exact Or.inr (Or.inr rfl)) (hd : (y == ("__debug__" : Str)) = false := by decide) (hcd : (y == ("__classdict__" : Str)) = false := by decide) :
    PI X tg (.Name y npos) (tVIk X.K i) := by
  refine PI.imp (pi_keys (pe_var hN hv hd hcd)) fun σ H Rk h => ?_
  obtain ⟨⟨d, od, u, hs, hd, hu⟩, Z, ρ, Fs, items, ρ', rel, hf, q⟩ := h
  unfold iKy at hf
  obtain ⟨o, h0, hf⟩ := Option.bind_eq_some_iff.mp hf
  obtain ⟨v, hv, r⟩ := rel.at_ i o (Env.at_some h0)
  rw [hs] at hv
  cases hv
  generalize Fs i = F0 at r
  split at hf
  · rename_i t kvs
    cases hf
    refine ⟨.ref d, hs, d, od, rfl, ?_⟩
    cases r with
    | dfz h1 _ _ =>
      obtain ⟨o, h1, h2⟩ := h1
      rw [hd] at h1
      cases h1
      exact h2.dc.elim
    | dlk h1 _ =>
      obtain ⟨o', o, h1, h2⟩ := h1
      rw [hd] at h1
      cases h1
      cases t with
      | false =>
        obtain ⟨ws, rfl, hk, _⟩ := h2
        refine .inl ⟨ws, hd, ?_⟩
        have wk := walk_keys (d := d) (o := od) (kvs := ws)
        rw [show ws.length = (kvs.map (·.1)).length by rw [hk, List.length_map]] at wk
        refine q _ H Z Fs [] _ _ rel (Frm.refl _) wk (fun _ _ h => (by cases h)) fun M Z2 H2 k hA hZ zz => ⟨k.frz _ _ _ hd, fun j x h d' hy hi => ?_⟩
        obtain ⟨rfl, kk, v, h3, rfl⟩ := hy
        rw [hk, List.getElem?_map, h3] at hi
        cases hi
        exact ⟨Keep.refl _ _, rs_keys kk⟩
      | true =>
        obtain ⟨ws, rfl, hk, _⟩ := h2
        refine .inr ⟨ws, hd, ?_⟩
        have wk := walk_keysT (d := d) (o := od) (kvs := ws)
        rw [show ws.length = (kvs.map (·.1)).length by rw [hk, List.length_map]] at wk
        refine q _ H Z Fs [] _ _ rel (Frm.refl _) wk (fun _ _ h => (by cases h)) fun M Z2 H2 k hA hZ zz => ⟨k.frz _ _ _ hd, fun j x h d' hy hi => ?_⟩
        obtain ⟨rfl, kk, v, b, h3, rfl, h4⟩ := hy
        rw [hk, List.getElem?_map, h3] at hi
        cases hi
        exact ⟨Keep.refl _ _, .tup h4 (rs_keyss kk)⟩
  · cases hf
/-- what the slot's dict must be -/
def fzSlot (i : Nat) (ρ : Env) : Option Env := (Env.at ρ i).bind fun d => match d with
  | .dct _ _ _ => some (ρ.set i (some d.frz))
  | _ => none
/-- frozen first; then it is locked here, or it was locked before -/
theorem lock_cases {K : PySem.W.Frag} {Z : Addr → Prop} {ρ ρ1 : Env} {σ : L2.St} {H : Hp} {Fs : Ft} {i : Nat} (rel : Rel K Z ρ σ H Fs) (hf : fzSlot i ρ = some ρ1) :
    ∃ Z1 Fs1, Rel K Z1 ρ1 σ H Fs1 ∧ Frm [i] Z ρ Fs H Z1 ρ1 Fs1 H ∧ (Lkd i σ H ∨ ∃ a u, IsDc u ∧ H a = some u ∧ Z1 a ∧ (∀ j, a ∉ Fs1 j) ∧ ∀ od, Rel K Z1 ρ1 σ (upd H a (.frz od u)) Fs1 ∧ Lkd i σ (upd H a (.frz od u))) := by
  unfold fzSlot at hf
  obtain ⟨d, h0, hf⟩ := Option.bind_eq_some_iff.mp hf
  have hi := Env.at_some h0
  split at hf
  · rename_i o t kvs
    cases hf
    obtain ⟨rel1, f1⟩ := ali_step rel hi
    refine ⟨_, _, rel1, f1, ?_⟩
    have hi1 : (ρ.set i (some (D.frz (.dct o t kvs))))[i]? = some (some (.dct false t (D.frzP kvs))) := by rw [List.getElem?_set_self (Env.lt hi)]; rfl
    obtain ⟨v, hs, r⟩ := rel1.at_ i _ hi1
    have e0 : (if i = i then ([] : List Addr) else Fs i) = [] := if_pos rfl
    rw [e0] at r
    cases r with
    | @dfz a _ _ _ h1 hz h3 =>
      obtain ⟨u, h1, h2⟩ := h1
      have hn := fun j (z : a ∈ (fun j => if j = i then [] else Fs j) j) => rel1.nz j a z hz
      exact .inr ⟨a, u, h2.dc, h1, hz, hn, fun od => ⟨rel1.lock h2.dc h1 hn, a, od, u, hs, upd_same, h2.dc⟩⟩
    | @dlk a _ _ _ h1 h3 =>
      obtain ⟨od, u, h1, h2⟩ := h1
      exact .inl ⟨a, od, u, hs, h1, h2.dc⟩
  · cases hf
theorem PS.orLock {st : Stmt} {t : TS} (h : PS X st t) : PS X st (fun D σ H => t D σ H ∨ tLock t D σ H) :=
  ⟨fun pins s σ H D I q => q.elim (h.run pins s σ H D I) ((ps_lock h).run pins s σ H D I)⟩
theorem PE.orLock {e : Expr} {t : TE} (h : PE X e t) : PE X e (fun σ H Q => t σ H Q ∨ tLockE t σ H Q) :=
  ⟨fun pins s σ H Q I q => q.elim (h.run pins s σ H Q I) ((pe_lock h).run pins s σ H Q I)⟩
/-- a statement that walks over the slot's dict, which is frozen from here on -/
def sDk (i : Nat) (f : MS) : MS := fun ρ => (fzSlot i ρ).bind f
theorem tvs_lock {K : PySem.W.Frag} {t : TS} (i : Nat) {f : MS} (hi : ∀ D σ H, Lkd i σ H → tVS K W T f D σ H → t D σ H) {D : Ends} {σ : L2.St} {H : Hp} (h : tVS K W (i :: T) (sDk i f) D σ H) : t D σ H ∨ tLock t D σ H := by
  obtain ⟨Z, ρ, Fs, r, rel, hf, h1, h2, h3, h4⟩ := h
  unfold sDk at hf
  obtain ⟨ρ1, h0, hf⟩ := Option.bind_eq_some_iff.mp hf
  obtain ⟨Z1, Fs1, rel1, f1, lk⟩ := lock_cases rel h0
  have fn0 : Fin K [] [i] Z ρ Fs σ H Z1 ρ1 Fs1 σ H := Fin.of rel1 f1
  rcases lk with lk | ⟨a, u, hu, ha, hz, hn, lk⟩
  · exact .inl (hi D σ H lk ⟨Z1, ρ1, Fs1, r, rel1, hf, fun ρ2 e σ2 H2 Z2 Fs2 fn => h1 _ e _ _ _ _ (fn0.trans fn), fun ρ2 e σ2 H2 Z2 Fs2 fn => h2 _ e _ _ _ _ (fn0.trans fn), fun ρ2 e σ2 H2 Z2 Fs2 fn => h3 _ e _ _ _ _ (fn0.trans fn),
      fun d ρ2 e σ2 v H2 Z2 Fs2 F fn w c => h4 _ _ e _ _ _ _ _ _ (fn0.trans fn) w (Cf.late f1 c)⟩)
  · refine .inr ⟨a, u, ha, hu.mut, fun od => hi _ σ _ (lk od).2 ⟨Z1, ρ1, Fs1, r, (lk od).1, hf, fun ρ2 e σ2 H2 Z2 Fs2 fn => ?_, fun ρ2 e σ2 H2 Z2 Fs2 fn => ?_, fun ρ2 e σ2 H2 Z2 Fs2 fn => ?_, fun d ρ2 e σ2 v H2 Z2 Fs2 F fn w c => ?_⟩⟩
    · obtain ⟨e1, e2⟩ := fn.unlk hu ha hz
      exact ⟨e1, h1 _ e _ _ _ _ (fn0.trans e2)⟩
    · obtain ⟨e1, e2⟩ := fn.unlk hu ha hz
      exact ⟨e1, h2 _ e _ _ _ _ (fn0.trans e2)⟩
    · obtain ⟨e1, e2⟩ := fn.unlk hu ha hz
      exact ⟨e1, h3 _ e _ _ _ _ (fn0.trans e2)⟩
    · obtain ⟨e1, e2⟩ := fn.unlk hu ha hz
      exact ⟨e1, h4 _ _ e _ _ _ _ _ _ (fn0.trans e2) (w.unlk hu e1 (fn.frm.zz a hz)) (Cf.late f1 (c.unlk ha))⟩
theorem psv_forD (i : Nat) (hp : PassesOwn (model X.prog X.w) X.A X.env X.xe) (hc : X.calm = true) (hi : PI X tg iter (tVIk X.K i)) (hg : PGV X Wg Tg tg g) (hb : PSsV X Wb Tb bd sb)
    (hs : ∀ x, foldedSetIterable iter X.env x = pure x := by intro _; rfl) : PSV X (Wg ++ Wb) (i :: (Tg ++ Tb)) (.For tg iter bd [] pos) (sDk i (sFor (iKy i) g sb)) :=
  PS.imp (PS.orLock (ps_for hp hc hi hg hb hs)) fun D σ H h => tvs_lock i (T := [] ++ (Tg ++ Tb)) (t := tFor (tVIk X.K i) (tVG X.K Wg Tg g) (tVS X.K Wb Tb sb)) (fun D σ H lk q => ⟨lk, tv_for (T := []) (O := []) rfl q⟩) h
/-- a value that walks over the slot's dict -/
def fDk (i : Nat) (f : M D) : M D := fun ρ => (fzSlot i ρ).bind f
theorem tve_lock {K : PySem.W.Frag} {t : TE} (i : Nat) {f : M D} (hi : ∀ σ H Q, Lkd i σ H → tV K T [] true f σ H Q → t σ H Q) {σ : L2.St} {H : Hp} {Q : VK} (h : tV K (i :: T) [] true (fDk i f) σ H Q) : t σ H Q ∨ tLockE t σ H Q := by
  obtain ⟨Z, ρ, Fs, d, ρ', rel, hf, q⟩ := h
  unfold fDk at hf
  obtain ⟨ρ1, h0, hf⟩ := Option.bind_eq_some_iff.mp hf
  obtain ⟨Z1, Fs1, rel1, f1, lk⟩ := lock_cases rel h0
  rcases lk with lk | ⟨a, u, hu, ha, hz, hn, lk⟩
  · exact .inl (hi σ H Q lk ⟨Z1, ρ1, Fs1, d, ρ', rel1, hf, fun v H' Z' Fs' F rel' f' w c => q v H' Z' Fs' F rel' (f1.trans f') w (Cf.late f1 c)⟩)
  · refine .inr ⟨a, u, ha, hu.mut, fun od => hi σ _ _ (lk od).2 ⟨Z1, ρ1, Fs1, d, ρ', (lk od).1, hf, fun v H' Z' Fs' F rel' f' w c => ?_⟩⟩
    have e := f'.keep.frz a od u upd_same
    have z' := f'.zz a hz
    exact ⟨e, q v _ Z' Fs' F (rel'.unlk hu e z') (f1.trans (f'.unlk hu ha)) (w.unlk hu e z') (Cf.late f1 (c.unlk ha))⟩
theorem pev_lcD (i : Nat) {scope : Scope} {own : List (Str × Nat)} (hc : X.calm = true) (hN : X.N.Nodup) (hi : PI X tg iter (tVIk X.K i)) (ok : BlkOk X.N X.env.scope scope own)
    (hg : ∀ (s : Shared) (H : Hp) (C : Addr) (cl : List (Str × Addr)) (fp : List Addr), PGV (X.blk s H scope (compEnvC scope cl C X.env) fp) Wg Tg tg g) (ht : ∀ (s : Shared) (H : Hp) (C : Addr) (cl : List (Str × Addr)) (fp : List Addr), PTsV (X.blk s H scope (compEnvC scope cl C X.env) fp) Tt ifs ft)
    (he : ∀ (s : Shared) (H : Hp) (C : Addr) (cl : List (Str × Addr)) (fp : List Addr), PEV (X.blk s H scope (compEnvC scope cl C X.env) fp) Te [] true elt fe) (hW : Wg.all (fun i => (own.map (·.2)).contains i) = true := by rfl)
    (hs : ∀ x, foldedSetIterable iter X.env x = pure x := by intro _; rfl) :
    PEV X (i :: ([] ++ (((own.map (·.2)) ++ (Tg ++ (Tt ++ Te))) ++ (own.map (·.2))))) [] true (.ListComp elt [⟨tg, iter, ifs, 0⟩] scope pos) (fDk i (fComp (own.map (·.2)) (iKy i) g ft fe)) :=
  PE.imp (PE.orLock (pe_lc hc hN hi ok hg ht he hs)) fun σ H Q h => by
    refine tve_lock i ?_ h
    intro σ H Q lk q
    exact ⟨lk, tv_comp (X := X) (T := []) (O := []) _ hW rfl q⟩
theorem psv_setLcD (i j : Nat) {z : Str} {py spos : Pos} {scope : Scope} {own : List (Str × Nat)} (hc : X.calm = true) (hN : X.N.Nodup) (hsw : swapsWith (.ListComp elt [⟨tg, iter, ifs, 0⟩] scope pos) (some (.Name z py)) spos.line X.env = pure true) (hi : PI X tg iter (tVIk X.K i)) (ok : BlkOk X.N X.env.scope scope own)
    (hg : ∀ (s : Shared) (H : Hp) (C : Addr) (cl : List (Str × Addr)) (fp : List Addr), PGV (X.blk s H scope (compEnvC scope cl C X.env) fp) Wg Tg tg g) (ht : ∀ (s : Shared) (H : Hp) (C : Addr) (cl : List (Str × Addr)) (fp : List Addr), PTsV (X.blk s H scope (compEnvC scope cl C X.env) fp) Tt ifs ft)
    (he : ∀ (s : Shared) (H : Hp) (C : Addr) (cl : List (Str × Addr)) (fp : List Addr), PEV (X.blk s H scope (compEnvC scope cl C X.env) fp) Te [] true elt fe) (hy : X.N[j]? = some z := by rfl) (hyl : X.env.scope.names.lookup z = some .local := by rfl)
    (hW : Wg.all (fun i => (own.map (·.2)).contains i) = true := by rfl) (hs : ∀ x, foldedSetIterable iter X.env x = pure x := by intro _; rfl) :
    PSV X [j] (i :: (j :: ([] ++ (((own.map (·.2)) ++ (Tg ++ (Tt ++ Te))) ++ (own.map (·.2)))))) (.Assign [.Name z py] (.ListComp elt [⟨tg, iter, ifs, 0⟩] scope pos) spos) (sDk i (sSet j (fComp (own.map (·.2)) (iKy i) g ft fe))) :=
  PS.imp (PS.orLock (ps_setLc (g := tVG X.K Wg Tg g) (tt := tVT X.K Tt ft) (te := tV X.K Te [] true fe) hc hN hy hyl hsw hi ok hg ht he hs)) fun D σ H h => tvs_lock i (fun D σ H lk q => by
    obtain ⟨Z, ρ, Fs, r, rel, hf, h1, h2, h3, h4⟩ := q
    unfold sSet at hf
    obtain ⟨⟨d, ρ1⟩, hp, hf⟩ := Option.bind_eq_some_iff.mp hf
    cases hf
    exact ⟨lk, tv_comp (X := X) (T := []) (O := []) _ hW rfl ⟨Z, ρ, Fs, d, ρ1, rel, hp, fun v H' Z' Fs' F rel' f' w c => h1 _ rfl _ _ _ _ (Fin.put rel' f' w c)⟩⟩) h
end
end Vl

namespace Vl
open PySem PySem.Spec PyProof.Rows L2

/-! ### enumerate of a tuple -/
abbrev tuIt (l : Addr) : Obj := { cls := .type "tuple_iterator", data := .fields #[.ref l, .int 0 0] }
abbrev enOb (b : Addr) : Obj := { cls := .type "enumerate", data := .fields #[.none, .bool false, .ref b, rawInt 0, .none, .none] }
theorem enum_newT (l : Addr) (items : Array Value) (n : Nat) (dct : Option Addr) (sl : Array (Option Value)) :
    Meets (Builtin.«enumerate.__new__» ⟨[.type "enumerate", .ref l], []⟩) (fun _ R s => s.heap.get? l = some { cls := .type "tuple", dict := dct, data := .seq items n, slots := sl } ∧
      R (.ok (.ret (.ref (s.heap.push (tuIt l)).objs.size))) { s with heap := (s.heap.push (tuIt l)).push (enOb s.heap.objs.size) }) :=
  .of_wp fun prog w A R s h => by
    obtain ⟨hp, g, d, tk, os⟩ := s
    obtain ⟨hl, h⟩ := h
    have hsub := PySem.sub_enumerate
    have hL : Heap.IsTuple (Shared.heap ⟨hp, g, d, tk, os⟩) l items := ⟨_, hl, rfl, n, rfl⟩
    wp_walk using AutoSeq1.wpAny_loadPart' hl
    refine wpAny_stack_any fun st => wpAny_pure ?_
    split
    · rename_i c _ _ _ _ _
      cases (c == Value.type "enumerate")
      · wp_walk using AutoSeq1.wpAny_loadPart' hl, wpAny_pyIter_tuple hL
        exact ⟨_, rfl, h⟩
      · wp_walk using AutoSeq1.wpAny_loadPart' hl, wpAny_pyIter_tuple hL
        exact ⟨_, rfl, h⟩
    · wp_walk using AutoSeq1.wpAny_loadPart' hl, wpAny_pyIter_tuple hL
      exact ⟨_, rfl, h⟩
section
variable {prog : Program} {w : World} {A : Around} {E : Value → Shared → Prop} {s : Shared}
theorem call_enum_tup {l : Addr} {items : Array Value} {Q : Value → Shared → Prop} (hL : s.heap.IsTuple l items)
    (h : ∀ h', IsEnum h' (s.heap.objs.size + 1) s.heap.objs.size 0 .none → h'.IsTupleIter s.heap.objs.size l 0 → (∀ b o, s.heap.get? b = some o → h'.get? b = some o) → Q (.ref (s.heap.objs.size + 1)) { s with heap := h' }) :
    wpAny (model prog w) A (call (.type "enumerate") [.ref l]) Q E s := by
  obtain ⟨⟨c, dct, dt, sl⟩, hl, hc, n, hd⟩ := hL
  replace hc : c = .type "tuple" := hc
  replace hd : dt = .seq items n := hd
  subst hc hd
  refine callType_new F.called_enumerate (by decide) (F.typeCall_enumerate_1 _) (F.newCall_enumerate_1 _) (fun obj => F.args_object_init_2 obj _) F.entry_enumerate_new (enum_newT l items n dct sl) ⟨hl, ?_⟩
  have hz : (s.heap.push (tuIt l)).objs.size = s.heap.objs.size + 1 := Heap.size_push ..
  show _ ∧ _
  rw [hz]
  have he : IsEnum ((s.heap.push (tuIt l)).push (enOb s.heap.objs.size)) (s.heap.objs.size + 1) s.heap.objs.size 0 .none := by
    have e := Heap.get?_push_size (s.heap.push (tuIt l)) (o := enOb s.heap.objs.size) rfl
    rw [hz] at e
    exact e
  exact ⟨⟨_, he, rfl⟩, h _ he ⟨_, Heap.get?_push_of_some _ (Heap.get?_push_size _ rfl), rfl, rfl⟩ fun b o x => Heap.get?_push_of_some _ (Heap.get?_push_of_some _ x)⟩
end
def Itf (K : PySem.W.Frag) (a : Addr) : It :=
  ⟨fun i H => ∃ (xs : List V) (x : V), SqT K H a xs ∧ xs[i]? = some x, fun i H v H' => ∃ T x, v = .ref T ∧ H T = none ∧ H' = upd H T (.tup [.int (i : Nat), x]) ∧ ∀ xs, SqT K H a xs → xs[i]? = some x, fun i H => ∃ xs : List V, SqT K H a xs ∧ xs.length = i⟩
theorem turn_enumT {P : Program} {w : World} {K : PySem.W.Frag} {elts : List Expr} {kk : Nat} {tpos : Pos} (a e it : Addr) :
    Turn P w K (.Tuple elts kk tpos) (Itf K a) [e, it] e (fun i h => (∃ old, IsEnum h e it ((i : Nat) : Int) old) ∧ h.IsTupleIter it a i ∧ e ≠ it ∧ a ≠ it ∧ a ≠ e) where
  mem := by simp
  obj := fun i h st b hb => by
    obtain ⟨⟨old, he⟩, ⟨o, ho, hc, hd⟩, _⟩ := st
    have e' : b = e ∨ b = it := by simpa using hb
    rcases e' with z | z
    · rw [z]; exact ⟨_, he, fun v q => nomatch q⟩
    · rw [z]; exact ⟨o, ho, fun v q => by rw [hd] at q; cases q⟩
  keep := fun i h h' st k => let ⟨⟨old, he⟩, hi, hne⟩ := st; ⟨⟨old, k e (by simp) _ he⟩, hi.at fun o q => k it (by simp) o q, hne⟩
  item := by
    intro X hP hw hK hc i pins s σ H E I hf st hg
    subst hP hw hK
    obtain ⟨⟨old, he⟩, hit, hne, hai, hae⟩ := st
    obtain ⟨xs, x, hq, hx⟩ := hg
    obtain ⟨its, rv, p, hz⟩ := I.tuple hq
    obtain ⟨u, hu, ru⟩ := rv.get hx
    have hel : e < s.heap.objs.size := Heap.lt_size he
    have hil : it < s.heap.objs.size := by obtain ⟨_, q, _⟩ := hit; exact Heap.lt_size q
    have hlt : i < its.toArray.size := by rw [List.size_toArray]; exact (List.getElem?_eq_some_iff.mp hu).1
    refine wpAny_pyNext_enum_itemD (n := its.toArray.size) (Draws.tuple (A := X.A.in1) (show X.A.in1.handled = none from I.ok.hd hc) it a hai its.toArray) he ⟨hit, p⟩ hlt hne (by simp [hne, Ne.symm hae]) fun y h' tk hy ho hst' hT hsz hk => ?_
    have ey : y = u := Option.some.inj (hy.symm.trans (by simpa using hu))
    subst ey
    refine ⟨_, rfl, wpAny_letOwnedTupleGo_enum (s := { s with heap := h', toks := tk + 1 }) ho fun h'' he' sb => ?_⟩
    have hT2 : h''.get? s.heap.objs.size = some { cls := .type "tuple", data := .seq #[.int i tk, y] } := (sb.2 _ (Nat.ne_of_gt hel)).trans hT
    have new : ObjOk X.prog X.w (upd H s.heap.objs.size (.tup [.int (i : Nat), x])) h'' s.heap.objs.size (.tup [.int (i : Nat), x]) :=
      ⟨by show 2 ≤ sizeLine; decide, [.int i tk, y], .cons ⟨_, rfl⟩ (.cons ru .nil), ⟨_, hT2, rfl, _, rfl⟩⟩
    have I1 : Inv X pins σ (upd H s.heap.objs.size (.tup [.int (i : Nat), x])) { s with heap := h'', toks := tk + 1 } :=
      I.turnedNew (ch := [e, it]) (fun b ob hb q => (sb.2 b (fun z => hb (by simp [z]))).trans (hk b ob (fun z => hb (by simp [z])) (fun z => hb (by simp [z])) q)) hf (Nat.le_refl _) new
    refine ⟨.ref s.heap.objs.size, _, I1, rfl, ⟨_, x, rfl, I.hok.fresh (Nat.le_refl _), rfl, fun ys hy => by rw [I.tuple_inj hy hq]; exact hx⟩, ⟨⟨y, ?_⟩, hst'.1.at fun o q => (sb.2 it (Ne.symm hne)).trans q, hne, hai, hae⟩, fun b hb => ?_⟩
    · have e1 : ((i + 1 : Nat) : Int) = (i : Int) + 1 := by omega
      rw [e1]; exact he'
    · have hb' : b < s.heap.objs.size := by
        have e' : b = e ∨ b = it := by simpa using hb
        rcases e' with z | z
        · rw [z]; exact hel
        · rw [z]; exact hil
      rw [upd_ne (Nat.ne_of_lt hb')]
      exact (hf b hb).1
  done := by
    intro X hP hw hK hc i pins s σ H E I hf st hg
    subst hP hw hK
    obtain ⟨⟨old, he⟩, hit, hne, hai, hae⟩ := st
    obtain ⟨xs, hq, hx⟩ := hg
    obtain ⟨its, rv, p, hz⟩ := I.tuple hq
    obtain ⟨f0, f1, f2, f3, f4, f5⟩ := hf it (by simp)
    have hl := rv.length
    have hn : i = its.toArray.size := by rw [List.size_toArray]; omega
    rw [hn] at he hit
    exact wpAny_pyNext_enum_endD (n := its.toArray.size) (Draws.tuple (A := X.A.in1) (show X.A.in1.handled = none from I.ok.hd hc) it a hai its.toArray) he ⟨hit, p⟩ fun h' eb => ⟨rfl, I.turned (t' := s.toks) (fun b o hb q => eb b o hb q) f0 f1 f3 f4 f5⟩
  self := fun A i s Q E st h => let ⟨⟨_, he⟩, _⟩ := st; wpAny_pyIter_enum he h
theorem walk_enumT {K : PySem.W.Frag} {a : Addr} {xs : List V} : Walk (Itf K a) xs.length (fun H => SqT K H a xs) (YPair (fun i => some (.int (i : Nat))) (fun i => xs[i]?)) := by
  refine ⟨fun i _ hi q => ⟨xs, xs[i], q, by simp [hi]⟩, fun _ q => ⟨xs, q, rfl⟩, fun i H v H' _ q y => ?_⟩
  obtain ⟨T, x, h1, h2, h3, h4⟩ := y
  exact ⟨T, .int (i : Nat), x, h1, h2, h3, rfl, h4 xs q⟩
def iEnumA (K : PySem.W.Frag) (te : TE) : TI := fun σ H R => te σ H fun v H1 => ∃ a, v = .ref a ∧ ((∃ xs, SqL K H1 a xs ∧ R (Ite K a) H1) ∨ ∃ xs, SqT K H1 a xs ∧ R (Itf K a) H1)
theorem pi_enumA {X : Cx} {e : Expr} {te : TE} {p pos tpos : Pos} {elts : List Expr} {kk : Nat} (hg : Gl X "enumerate") (hm : X.mg "enumerate" = none) (he : PE X e te) (hs : starEach [e] X.env = (false, eval e X.env) :: starEach [] X.env := by rfl) :
    PI X (.Tuple elts kk tpos) (.Call (.Name "enumerate" p) [e] [] pos) (iEnumA X.K te) := by
  refine ⟨fun pins s σ H R I h => ?_⟩
  refine Call_ (ld_blt I hg hm boot_enumerate (PyProof.Rows.callWith_type1 (args_cons (thn (he.run pins s σ H _ I h) fun u s1 ⟨v, H1, I1, r1, a, ex, q⟩ => args_nil ?_) hs) hs rfl))
  subst ex
  obtain rfl : u = Value.ref a := r1
  have fp : ∀ b ∈ [s1.heap.objs.size + 1, s1.heap.objs.size], FpOk X pins H1 b := fun b hb => by
    have e' : b = s1.heap.objs.size + 1 ∨ b = s1.heap.objs.size := by simpa using hb
    have hle : s1.heap.objs.size ≤ b := by
      rcases e' with z | z
      · rw [z]; exact Nat.le_add_right _ _
      · rw [z]; exact Nat.le_refl _
    exact I1.fpOk hle (I1.hok.fresh hle)
  rcases q with ⟨xs, hq, q⟩ | ⟨xs, hq, q⟩
  · obtain ⟨its, rv, p', hz⟩ := I1.list hq
    refine call_enumerate_list p'.isList fun h' he hit hsz hk => wpAny_pyIter_enum he ?_
    exact ⟨s1.heap.objs.size + 1, [s1.heap.objs.size + 1, s1.heap.objs.size], _, _, H1, rfl, I1.kept (t' := s1.toks) hk, turn_enum a (s1.heap.objs.size + 1) s1.heap.objs.size, ⟨⟨.none, he⟩, hit, Nat.succ_ne_self _⟩, fp, q⟩
  · obtain ⟨its, rv, p', hz⟩ := I1.tuple hq
    have hlt : a < s1.heap.objs.size := by obtain ⟨o, ho, _⟩ := p'; exact Heap.lt_size ho
    refine call_enum_tup p' fun h' he hit hk => wpAny_pyIter_enum he ?_
    exact ⟨s1.heap.objs.size + 1, [s1.heap.objs.size + 1, s1.heap.objs.size], _, _, H1, rfl, I1.kept (t' := s1.toks) hk, turn_enumT a (s1.heap.objs.size + 1) s1.heap.objs.size, ⟨⟨.none, he⟩, hit, Nat.succ_ne_self _, Nat.ne_of_lt hlt, Nat.ne_of_lt (Nat.lt_succ_of_lt hlt)⟩, fp, q⟩
/-- the pairs of an index and an item -/
def enumD : Nat → List D → List D
  | _, [] => []
  | i, d :: r => .tup [.int (i : Nat), d] :: enumD (i + 1) r
theorem enumD_length : ∀ (i : Nat) (l : List D), (enumD i l).length = l.length
  | _, [] => rfl
  | i, _ :: r => congrArg (· + 1) (enumD_length (i + 1) r)
theorem enumD_get : ∀ (l : List D) (i j : Nat), (enumD i l)[j]? = (l[j]?).map fun d => .tup [.int ((i + j : Nat) : Int), d]
  | [], i, j => by simp [enumD]
  | d :: r, i, 0 => by simp [enumD]
  | d :: r, i, j + 1 => by
    have e := enumD_get r (i + 1) j
    rw [show i + 1 + j = i + (j + 1) by omega] at e
    simpa [enumD] using e
def iEnm (f : M D) : M (List D) := fun ρ => (f ρ).bind fun p => (itemsOf p.1).bind fun l => some (enumD 0 l, p.2)
section
variable {X : Cx} {T O : List Nat} {x : Bool} {e : Expr} {f : M D}
theorem stay_pair {K : PySem.W.Frag} {Z : Addr → Prop} {H : Hp} {A : List Addr} {G : Hp → Prop} {l : List D} {xs : List V}
    (st : ∀ (M : Addr → Prop) (Z2 : Addr → Prop) (H2 : Hp), Keep M H H2 → (∀ a ∈ A, ¬ M a) → (∀ a, Z a → ¬ M a) → (∀ a, Z a → Z2 a) → G H2 ∧ Rs K Z2 H2 l xs []) :
    Stay K Z H A G (YPair (fun i => some (.int (i : Nat))) (fun i => xs[i]?)) (enumD 0 l) := fun M Z2 H2 k hA hZ zz => by
  obtain ⟨g, rs⟩ := st M Z2 H2 k hA hZ zz
  refine ⟨g, fun i v h d hy hi => ?_⟩
  obtain ⟨T, a, b, rfl, hT, rfl, ha, hb⟩ := hy
  cases ha
  rw [enumD_get] at hi
  obtain ⟨d', hd, rfl⟩ := Option.map_eq_some_iff.mp hi
  obtain ⟨w, G', h1, h2, h3⟩ := rs.get hd
  have e : b = w := Option.some.inj (hb.symm.trans h1)
  subst e
  have e2 : G' = [] := by
    cases G' with
    | nil => rfl
    | cons x r => exact absurd (h3 x List.mem_cons_self) (by simp)
  subst e2
  have k1 : Keep M0 H2 (upd H2 T (.tup [.int (i : Nat), b])) := Keep.new hT
  refine ⟨k1, .tup upd_same (.cons0 ?_ (.cons0 (h2.keep0 k1) .nil))⟩
  rw [Nat.zero_add]
  exact .int _
theorem piv_enum {p pos tpos : Pos} {elts : List Expr} {kk : Nat} (hg : Gl X "enumerate") (hm : X.mg "enumerate" = none) (he : PEV X T O x e f) (hs : starEach [e] X.env = (false, eval e X.env) :: starEach [] X.env := by rfl) :
    PIV X T O (.Tuple elts kk tpos) (.Call (.Name "enumerate" p) [e] [] pos) (iEnm f) := by
  refine PI.imp (pi_enumA hg hm he hs) fun σ H Rk h => ?_
  obtain ⟨Z, ρ, Fs, items, ρ', rel, hf, q⟩ := h
  unfold iEnm at hf
  obtain ⟨⟨d, ρ1⟩, h1, hf⟩ := Option.bind_eq_some_iff.mp hf
  obtain ⟨l, h2, hf⟩ := Option.bind_eq_some_iff.mp hf
  cases hf
  refine ⟨Z, ρ, Fs, d, _, rel, h1, fun v H' Z' Fs' F rel' f' w c => ?_⟩
  have w0 := w.r
  cases d <;> simp only [itemsOf] at h2 <;> try (cases h2)
  · split at h2
    · rename_i hn
      cases h2
      obtain ⟨a, vs, e, hq, hl, st⟩ := w.r.tup_keep (Z' := Z') (H' := H') hn
      refine ⟨a, e, .inr ⟨vs, hq, ?_⟩⟩
      have wk := walk_enumT (K := X.K) (a := a) (xs := vs)
      rw [← hl, ← enumD_length 0] at wk
      exact q _ H' Z' Fs' F _ _ rel' f' wk w.ori (stay_pair fun M Z2 H2 k _ hZ zz => st M Z2 H2 k hZ zz)
    · cases h2
  · split at h2
    · rename_i hn
      cases h2
      obtain ⟨a, vs, e, hq, hl, st⟩ := w.r.lst_keep (Z' := Z') (H' := H') hn
      refine ⟨a, e, .inl ⟨vs, hq, ?_⟩⟩
      have wk := walk_enum (K := X.K) (a := a) (xs := vs)
      rw [← hl, ← enumD_length 0] at wk
      exact q _ H' Z' Fs' F _ _ rel' f' wk w.ori (stay_pair st)
    · cases h2
  · split at h2
    · cases h2
      obtain ⟨a, vs, e, hq, hl, st⟩ := w.r.scr_keep (Z' := Z') (H' := H')
      refine ⟨a, e, .inl ⟨vs, hq, ?_⟩⟩
      have wk := walk_enum (K := X.K) (a := a) (xs := vs)
      rw [← hl, ← enumD_length 0] at wk
      exact q _ H' Z' Fs' F _ _ rel' f' wk w.ori (stay_pair st)
    · cases h2
end
end Vl

namespace Vl
open PySem PySem.Spec PyProof.Rows L2

section
variable {K : PySem.W.Frag} {Z : Addr → Prop} {H : Hp}
/-! ### dict(d), list(d) -/
def gDict : List D → Option D
  | [.dct _ false kvs] => if D.noOwnP kvs = true then some (.dct true false kvs) else none
  | _ => none
def rDictD : List V → Hp → VK → Prop := fun xs H Q => ∃ (a : Addr) (kvs : List (Key × V)), xs = [.ref a] ∧ Rd H a (.dK kvs) ∧ ∀ p, H p = none → Q (.ref p) (upd H p (.dK kvs))
def rListK : List V → Hp → VK → Prop := fun xs H Q => ∃ (a : Addr) (kvs : List (Key × V)), xs = [.ref a] ∧ Rd H a (.dK kvs) ∧ ∀ p, H p = none → Q (.ref p) (upd H p (.lst (kvs.map fun kv => kV kv.1)))
theorem cs_dict : ClS K rDictD gDict := fun Z H ds vs F1 d Q rs hg q => by
  unfold gDict at hg
  split at hg
  · rename_i o kvs
    split at hg
    · rename_i hn
      cases hg
      obtain ⟨v, rfl, rv⟩ := rs.one_inv
      obtain ⟨a, ws, G, rfl, hr, dr, hs⟩ := rv.dct_rd
      have e0 : G = [] := dr.rs.no (by rw [← noOwnP_eq]; exact hn)
      subst e0
      refine ⟨a, ws, rfl, hr, fun p hp => ?_⟩
      have k : Keep M0 H (upd H p (.dK ws)) := Keep.new hp
      exact q _ _ [p] k (DRel.at upd_same ⟨dr.ks, dr.rs.keep0 k⟩) (by simp) fun b hb => by rw [List.mem_singleton.mp hb]; exact hp
    · cases hg
  · cases hg
def rListA (K : PySem.W.Frag) : List V → Hp → VK → Prop := fun xs H Q => (∃ p ys, xs = [.ref p] ∧ (SqL K H p ys ∨ SqT K H p ys) ∧ ∀ l, H l = none → Q (.ref l) (upd H l (.lst ys))) ∨ rListK xs H Q
def gListA (ds : List D) : Option D := match ds with
  | [.dct _ false kvs] => some (.lst true (kvs.map (·.1)))
  | _ => gList ds
theorem rs_kDs : ∀ ws : List (Key × V), Rs K Z H (ws.map fun p => kD p.1) (ws.map fun p => kV p.1) []
  | [] => .nil
  | p :: r => .cons0 (rs_keys p.1) (rs_kDs r)
theorem cs_listA : ClS K (rListA K) gListA := fun Z H ds vs F1 d Q rs hg q => by
  unfold gListA at hg
  split at hg
  · rename_i o kvs
    cases hg
    obtain ⟨v, rfl, rv⟩ := rs.one_inv
    obtain ⟨a, ws, G, rfl, hr, dr, hs⟩ := rv.dct_rd
    refine .inr ⟨a, ws, rfl, hr, fun p hp => ?_⟩
    have k : Keep M0 H (upd H p (.lst (ws.map fun kv => kV kv.1))) := Keep.new hp
    refine q _ _ [p] k (.own upd_same ?_) (by simp) fun b hb => by rw [List.mem_singleton.mp hb]; exact hp
    rw [dr.ks]
    exact rs_kDs ws
  · exact .inl (cs_list Z H ds vs F1 d Q rs hg q)
theorem call_listA {X : Cx} (hc : X.calm = true) : CallR X (.type "list") (rListA X.K) := CallR.or call_list_of (call_listD hc)
/-! ### comparing with {} -/
def rEqZ (K : PySem.W.Frag) : R2 := fun x y H Q => rEqD K x y H Q ∨ ∃ a b ks, x = .ref a ∧ y = .ref b ∧ Rd H a (.dK ks) ∧ Rd H b (.dK []) ∧ Q (.bl ks.isEmpty) H
theorem op_eqZ {X : Cx} (hu : X.A.units + 64 < cLine) : OpR X (compareOp .Eq) (rEqZ X.K) := OpR.or (op_eqD hu) fun pins s σ H x y v u Q I rx ry h => by
  obtain ⟨a, b, ks, rfl, rfl, ea, eb, q⟩ := h
  obtain rfl : v = Value.ref a := rx
  obtain rfl : u = Value.ref b := ry
  obtain ⟨_, ya, va, ra, da⟩ := dk_rd I.hok ea
  obtain ⟨_, yb, vb, rb, db⟩ := dk_rd I.hok eb
  have hl : vb.length = 0 := by rw [← rb.length]; rfl
  refine PySem.W.keq_eq (knd := mixKind X.prog X.w) (r := true) ya yb da db (by omega) (fun h0 => ?_) (fin_bl I q ?_)
  · have e : va.length = 0 := by first | (have := of_decide_eq_true h0; omega) | omega
    have e2 : ks = [] := List.eq_nil_of_length_eq_zero (by rw [ra.length]; exact e)
    subst e2
    exact hits_all rb ra (fun p hp => by cases hp)
  · cases ks <;> simp [hl, ← ra.length]
def gEqZ (d e : D) : Option D := match d, e with
  | .dct _ false kvs, .dct _ false [] => some (.bl kvs.isEmpty)
  | _, _ => gEq d e
theorem os_eqZ : OpS K (rEqZ K) gEqZ := fun Z H d1 d2 v1 v2 F1 F2 d Q r1 r2 hg q => by
  unfold gEqZ at hg
  split at hg
  · rename_i o kvs o2
    cases hg
    obtain ⟨a, ws, G, rfl, hr, dr, hs⟩ := r1.dct_rd
    obtain ⟨b, ws2, G2, rfl, hr2, dr2, hs2⟩ := r2.dct_rd
    have e := dr2.nil_
    subst e
    refine .inr ⟨a, b, ws, rfl, rfl, hr, hr2, ?_⟩
    have e : ws.isEmpty = kvs.isEmpty := by
      have := congrArg List.length dr.ks
      rw [List.length_map, List.length_map] at this
      cases kvs <;> cases ws <;> first | rfl | (simp at this)
    rw [e]
    exact q _ H [] (Keep.refl _ _) (.bl _) List.nodup_nil fun _ h => (by cases h)
  · exact .inl (os_eq Z H d1 d2 v1 v2 F1 F2 d Q r1 r2 hg q)
end
section
variable {X : Cx} {T T0 T1 T2 O O0 O1 O2 : List Nat} {x x0 x1 x2 : Bool} {o e f : Expr} {fo fk fx : M D} {pos npos apos cpos : Pos} {y : Str}
/-! ### d.get(k), d.get(k, x) -/
def gGet2 (d0 k z : D) : Option D := match d0 with
  | .dct _ false kvs => (keyOf k).bind fun _ => some ((lookD kvs k).getD z)
  | .dct _ true kvs => (keyT k).bind fun _ => some ((lookD kvs k).getD z)
  | _ => none
def fGet2 (O0 T1 T2 : List Nat) (fo fk fx : M D) : M D := fun ρ => (fo ρ).bind fun p => (fk p.2).bind fun q => (fx q.2).bind fun r => if (safe O0 (T1 ++ T2) p.1 && q.1.noOwn && r.1.noOwn) = true then (gGet2 p.1 q.1 r.1).bind fun d => if d.noOwn = true then some (d, r.2) else none else none
theorem getT_of {K : PySem.W.Frag} {Z : Addr → Prop} {H : Hp} {kvs : List (D × D)} {ws : List (List Key × V)} {F : List Addr} {k : List Key} {z d : D} {w : V} (dr : DRel K Z H encT kvs ws F) (rz : R K Z H z w []) (e : (lookD kvs (encT k)).getD z = d) (hn : d.noOwn = true) : R K Z H d ((valV ws k).getD w) [] := by
  obtain ⟨h1, h2⟩ := dr.look kEq_encT k
  cases c : lookD kvs (encT k) with
  | none =>
    rw [c] at e
    cases e
    rw [h2 c]
    exact rz
  | some d' =>
    rw [c] at e
    cases e
    obtain ⟨v, G, z1, z2, z3⟩ := h1 _ c
    rw [z1]
    have e2 := z2.no hn
    subst e2
    exact z2
theorem getD_of {K : PySem.W.Frag} {Z : Addr → Prop} {H : Hp} {kvs : List (D × D)} {ws : List (Key × V)} {F : List Addr} {k : Key} {z d : D} {w : V} (dr : DRel K Z H kD kvs ws F) (rz : R K Z H z w []) (e : (lookD kvs (kD k)).getD z = d) (hn : d.noOwn = true) : R K Z H d ((valV ws k).getD w) [] := by
  obtain ⟨h1, h2⟩ := dr.look kEq_kD k
  cases c : lookD kvs (kD k) with
  | none =>
    rw [c] at e
    cases e
    rw [h2 c]
    exact rz
  | some d' =>
    rw [c] at e
    cases e
    obtain ⟨v, G, z1, z2, z3⟩ := h1 _ c
    rw [z1]
    have e2 := z2.no hn
    subst e2
    exact z2
theorem pev_get2 (hu : X.A.units + 1 < cLine) (ho : PEV X T0 O0 x0 o fo) (hk : PEV X T1 O1 x1 e fk) (hx : PEV X T2 O2 x2 f fx) (m : M2 X o "get" apos e f cpos := by exact ⟨rfl, rfl, rfl, rfl⟩) :
    PEV X (T0 ++ (T1 ++ T2)) [] true (.Call (.Attribute o "get" apos) [e, f] [] cpos) (fGet2 O0 T1 T2 fo fk fx) := by
  refine PE.imp (pe_dget2 hu ho hk hx m) fun σ H Q h => ?_
  obtain ⟨Z, ρ, Fs, d, ρ', rel, hf, q⟩ := h
  unfold fGet2 at hf
  obtain ⟨⟨d0, ρ0⟩, h0, hf⟩ := Option.bind_eq_some_iff.mp hf
  obtain ⟨⟨dk, ρ1⟩, h1, hf⟩ := Option.bind_eq_some_iff.mp hf
  obtain ⟨⟨dx, ρ2⟩, h2, hf⟩ := Option.bind_eq_some_iff.mp hf
  split at hf
  · rename_i hs
    simp only [Bool.and_eq_true] at hs
    obtain ⟨⟨hs1, hs2⟩, hs3⟩ := hs
    obtain ⟨d', h3, hf⟩ := Option.bind_eq_some_iff.mp hf
    split at hf
    · rename_i hn
      cases hf
      have h3 : gGet2 d0 dk dx = some _ := h3
      unfold gGet2 at h3
      split at h3
      · rename_i o kvs
        obtain ⟨k, hkk, h3⟩ := Option.bind_eq_some_iff.mp h3
        cases h3
        refine ⟨Z, ρ, Fs, _, ρ0, rel, h0, fun v0 H0 Z0 Fs0 F0 rel0 f0 w0 c0 => ?_⟩
        obtain ⟨a, ws0, G0, rfl, hr0, _, _⟩ := w0.r.dct_rd
        refine ⟨a, rfl, .inl ⟨ws0, hr0⟩, Z0, ρ0, Fs0, dk, ρ1, rel0, h1, fun vk H1 Z1 Fs1 F1 rel1 f1 w1 c1 => ?_⟩
        refine ⟨Z1, ρ1, Fs1, dx, ρ2, rel1, h2, fun vx H2 Z2 Fs2 F2 rel2 f2 w2 c2 => ?_⟩
        have w0' := w0.keep rel0 (f1.trans f2) hs1
        obtain ⟨a', ws, G, e, hr, dr, hs⟩ := w0'.r.dct_rd
        cases e
        obtain ⟨rfl, rfl⟩ := w1.r.key hkk
        have e3 := w2.r.no hs3
        have rx := w2.r
        rw [e3] at rx
        refine ⟨valV ws k, .inl ⟨ws, k, hr, rfl, rfl⟩, ?_⟩
        have rr := getD_of (k := k) dr rx rfl hn
        exact q _ H2 Z2 Fs2 [] rel2 (f0.trans (f1.trans f2)) (Val.imm rr hn) Cf.nil
      · rename_i o kvs
        obtain ⟨k, hkk, h3⟩ := Option.bind_eq_some_iff.mp h3
        cases h3
        refine ⟨Z, ρ, Fs, _, ρ0, rel, h0, fun v0 H0 Z0 Fs0 F0 rel0 f0 w0 c0 => ?_⟩
        obtain ⟨a, ws0, G0, rfl, hr0, _, _⟩ := w0.r.dctT_rd
        refine ⟨a, rfl, .inr ⟨ws0, hr0⟩, Z0, ρ0, Fs0, dk, ρ1, rel0, h1, fun vk H1 Z1 Fs1 F1 rel1 f1 w1 c1 => ?_⟩
        refine ⟨Z1, ρ1, Fs1, dx, ρ2, rel1, h2, fun vx H2 Z2 Fs2 F2 rel2 f2 w2 c2 => ?_⟩
        have w0' := w0.keep rel0 (f1.trans f2) hs1
        obtain ⟨a', ws, G, e, hr, dr, hs⟩ := w0'.r.dctT_rd
        cases e
        obtain ⟨c, rfl, hc, rfl⟩ := R.keyT hkk w1.r
        have e3 := w2.r.no hs3
        have rx := w2.r
        rw [e3] at rx
        refine ⟨valV ws k, .inr ⟨ws, k, c, hr, rfl, f2.keep.tup _ _ hc, rfl⟩, ?_⟩
        have rr := getT_of (k := k) dr rx rfl hn
        exact q _ H2 Z2 Fs2 [] rel2 (f0.trans (f1.trans f2)) (Val.imm rr hn) Cf.nil
      · cases h3
    · cases hf
  · cases hf
/-! ### d.pop(k) -/
def gDpop (d0 k : D) : Option (D × D) := match d0 with
  | .dct true false kvs => (keyOf k).bind fun _ => if D.noOwnP kvs = true then (lookD kvs k).map fun d => (d, .dct true false (delD kvs k)) else none
  | _ => none
def fDpop (i : Nat) (fk : M D) : M D := fun ρ => (Env.at ρ i).bind fun o => match o with
  | .dct _ false _ => (fk ρ).bind fun p => (Env.at p.2 i).bind fun o' => (gDpop o' p.1).bind fun q => some (q.1, p.2.set i (some q.2))
  | _ => none
theorem lookD_mem : ∀ {kvs : List (D × D)} {k d : D}, lookD kvs k = some d → D.noOwnP kvs = true → d.noOwn = true
  | [], k, d, h, _ => by cases h
  | (k', d') :: r, k, d, h, hn => by
    have hn : (D.noOwn d' && D.noOwnP r) = true := hn
    rw [Bool.and_eq_true] at hn
    unfold lookD at h
    split at h
    · cases h; exact hn.1
    · exact lookD_mem h hn.2
theorem pev_dpop (i : Nat) (hk : PEV X T O x e fk)
    (hN : X.N[i]? = some y := by rfl) (hv : Vis X.env.scope y := by first | exact Or.inl rfl | exact Or.inr (Or.inl rfl) | exact Or.inr (Or.inr rfl)) (hd : (y == ("__debug__" : Str)) = false := by decide) (hcd : (y == ("__classdict__" : Str)) = false := by decide)
    (m : M1 X (.Name y npos) "pop" apos e cpos := by exact ⟨rfl, rfl, rfl, rfl⟩) : PEV X (T ++ [i]) [] true (.Call (.Attribute (.Name y npos) "pop" apos) [e] [] cpos) (fDpop i fk) := by
  refine PE.imp (pe_dpop1 (pe_var hN hv hd hcd) hk m) fun σ H Q h => ?_
  obtain ⟨Z, ρ, Fs, d, ρ', rel, hf, q⟩ := h
  unfold fDpop at hf
  obtain ⟨o, h0, hf⟩ := Option.bind_eq_some_iff.mp hf
  split at hf
  · obtain ⟨⟨dk, ρ1⟩, h1, hf⟩ := Option.bind_eq_some_iff.mp hf
    obtain ⟨o', h2, hf⟩ := Option.bind_eq_some_iff.mp hf
    obtain ⟨⟨d1, d'⟩, h3, hf⟩ := Option.bind_eq_some_iff.mp hf
    cases hf
    obtain ⟨v0, hv0, r0⟩ := rel.at_ i _ (Env.at_some h0)
    obtain ⟨a, ws0, G0, rfl, hr0, _, _⟩ := r0.dct_rd
    refine ⟨.ref a, hv0, a, rfl, .inl ⟨ws0, hr0⟩, Z, ρ, Fs, dk, ρ1, rel, h1, fun vk H1 Z1 Fs1 F1 rel1 f1 w1 c1 => ?_⟩
    have hio := Env.at_some h2
    obtain ⟨v1, hv1, r1⟩ := rel1.at_ i o' hio
    rw [hv0] at hv1
    cases hv1
    unfold gDpop at h3
    split at h3
    · rename_i kvs
      obtain ⟨k, hkk, h3⟩ := Option.bind_eq_some_iff.mp h3
      split at h3
      · rename_i hn
        obtain ⟨dd, hl, h3⟩ := Option.map_eq_some_iff.mp h3
        cases h3
        obtain ⟨rfl, rfl⟩ := w1.r.key hkk
        have nz1 := rel1.nz i
        have nd1 := rel1.nd i
        generalize hFi : Fs1 i = Fi at r1 nz1 nd1
        obtain ⟨a', ws, G, e, rfl, ha, dr⟩ := r1.dct_ow
        cases e
        have e0 : G = [] := dr.rs.no (by rw [← noOwnP_eq]; exact hn)
        subst e0
        obtain ⟨v, G2, z1, z2, z3⟩ := (dr.look kEq_kD k).1 d1 hl
        have e2 := z2.no (lookD_mem hl hn)
        subst e2
        refine ⟨ws, k, v, ha, rfl, z1, ?_⟩
        have kp : Keep (fun b => b = a) H1 (upd H1 a (.dK (dropK ws k))) := Keep.wr ha trivial
        have hz : ∀ b, Z1 b → ¬ b = a := fun b z e => nz1 a List.mem_cons_self (by rw [← e]; exact z)
        have dr2 := dr.del kEq_kD (k := k)
        obtain ⟨e1, e2, e3, e4, e5⟩ := mut_end (F := []) (F' := []) (F0' := [a]) rel1 f1 Cf.nil (fun j a h => (by cases h)) (fun a h => (by cases h)) hv0 (Env.lt hio) (kp.mono fun b e => by rw [hFi, e]; exact List.mem_cons_self)
          (DRel.at upd_same ⟨dr2.ks, dr2.rs.keep kp (fun _ h => h) hz fun b hb => (by cases hb)⟩) (by simp) (fun b hb => .inl (by rw [hFi]; exact hb))
        exact q v _ Z1 _ [] e1 e2 ⟨z2.keep kp (fun _ h => h) hz fun b hb => (by cases hb), fun j a h => (by cases h), fun _ => ⟨List.nodup_nil, fun _ h => (by cases h)⟩⟩ Cf.nil
      · cases h3
    · cases h3
  · cases hf
end
/-! ### min(d), max(d): keys that are ints -/
theorem list_getD {is : List Int} {i : Nat} (h : i < is.length) : is.getD i 0 = is[i] := by
  rw [List.getD_eq_getElem?_getD, List.getElem?_eq_getElem h]
  rfl
theorem key_vals {P : Program} {w : World} {is : List Int} {vs : List (Key × Value)} (hk : vs.map (·.1) = is.map Sum.inl) (i : Nat) (v : Value) : (∃ k x, vs[i]? = some (k, x) ∧ (mixKind P w).is k v = true) → ∃ t, v = Value.int (is.getD i 0) t := fun ⟨k, x, h1, h2⟩ => by
  have e1 : (vs.map (·.1))[i]? = some k := by rw [List.getElem?_map, h1] <;> rfl
  rw [hk, List.getElem?_map] at e1
  obtain ⟨j, hj, e2⟩ := Option.map_eq_some_iff.mp e1
  subst e2
  obtain ⟨t, e3⟩ := Value.isInt_shape (k := j) (v := v) h2
  exact ⟨t, by rw [e3, List.getD_eq_getElem?_getD, hj] <;> rfl⟩
def rKeyM (le : Int → Int → Prop) : List V → Hp → VK → Prop := fun vs H Q => ∃ (a : Addr) (kvs : List (Key × V)) (is : List Int), vs = [V.ref a] ∧ Rd H a (.dK kvs) ∧ kvs.map (·.1) = is.map Sum.inl ∧ is ≠ [] ∧ ∀ m, m ∈ is → (∀ j ∈ is, le m j) → Q (.int m) H
section
variable {X : Cx}
theorem cr_keyMin (hc : X.calm = true) : CallR X (.builtin "min") (rKeyM fun m j => m ≤ j) := fun pins s σ H vs us Q I r h => by
  obtain ⟨a, kvs, is, rfl, ha, hv, hne, q⟩ := h
  rw [Vals.ref1 r]
  obtain ⟨_, hsys, vs, rel, dof⟩ := dk_rd I.hok ha
  obtain ⟨ep, dat⟩ := dof.dictAt
  obtain ⟨ob, es, ho, _⟩ := id dat
  have hlt := Heap.lt_size ho
  have hk : vs.map (·.1) = is.map Sum.inl := (KV.keys rel).symm.trans hv
  have hlv : vs.length = is.length := by simpa using congrArg List.length hk
  have hlen : 0 < vs.length := hlv ▸ List.length_pos_iff.mpr hne
  refine call_min_walk (wpAny_pyIter_dict (knd := mixKind X.prog X.w) hsys dat ⟨_, _, _, _, _, _, _, rfl, Walks.dictKeys (knd := mixKind X.prog X.w) (A := X.A.in1) (I.ok.hd hc) s.heap.objs.size a (Nat.ne_of_lt hlt) vs ep, ⟨⟨_, Heap.get?_push_size _ rfl, rfl, rfl⟩, dat.keep fun b u e => Heap.get?_push_of_some _ e⟩, fun b hb => ?_, hlen, CmpOf.ints_lt (fun i => is.getD i 0) (key_vals hk), fun v h' tk hP hk' => ?_⟩)
  · have hb' : b = s.heap.objs.size ∨ b = a := by simpa using hb
    show b < (s.heap.push _).objs.size
    rw [Heap.size_push]
    rcases hb' with e | e
    · rw [e]; exact Nat.lt_succ_self _
    · rw [e]; exact Nat.lt_succ_of_lt hlt
  · obtain ⟨t, rfl⟩ := key_vals hk _ v hP
    obtain ⟨b1, b2⟩ := argBest_lt (fun i => is.getD i 0) (vs.length - 1)
    refine ⟨.int _, H, I.kept (t' := tk) fun b u e => hk' b u (fun hm => absurd (Heap.lt_size e) (by rw [List.mem_singleton.mp hm]; exact Nat.lt_irrefl _)) (Heap.get?_push_of_some _ e), ⟨t, rfl⟩, q _ ?_ fun j hj => ?_⟩
    · rw [list_getD (by omega)]; exact List.getElem_mem _
    · obtain ⟨i, hi, e⟩ := List.mem_iff_getElem.mp hj
      have e2 := b2 i (by omega)
      simp only [list_getD hi, e] at e2
      exact e2
theorem cr_keyMax (hc : X.calm = true) : CallR X (.builtin "max") (rKeyM fun m j => j ≤ m) := fun pins s σ H vs us Q I r h => by
  obtain ⟨a, kvs, is, rfl, ha, hv, hne, q⟩ := h
  rw [Vals.ref1 r]
  obtain ⟨_, hsys, vs, rel, dof⟩ := dk_rd I.hok ha
  obtain ⟨ep, dat⟩ := dof.dictAt
  obtain ⟨ob, es, ho, _⟩ := id dat
  have hlt := Heap.lt_size ho
  have hk : vs.map (·.1) = is.map Sum.inl := (KV.keys rel).symm.trans hv
  have hlv : vs.length = is.length := by simpa using congrArg List.length hk
  have hlen : 0 < vs.length := hlv ▸ List.length_pos_iff.mpr hne
  refine call_max_walk (wpAny_pyIter_dict (knd := mixKind X.prog X.w) hsys dat ⟨_, _, _, _, _, _, _, rfl, Walks.dictKeys (knd := mixKind X.prog X.w) (A := X.A.in1) (I.ok.hd hc) s.heap.objs.size a (Nat.ne_of_lt hlt) vs ep, ⟨⟨_, Heap.get?_push_size _ rfl, rfl, rfl⟩, dat.keep fun b u e => Heap.get?_push_of_some _ e⟩, fun b hb => ?_, hlen, CmpOf.ints_gt (fun i => is.getD i 0) (key_vals hk), fun v h' tk hP hk' => ?_⟩)
  · have hb' : b = s.heap.objs.size ∨ b = a := by simpa using hb
    show b < (s.heap.push _).objs.size
    rw [Heap.size_push]
    rcases hb' with e | e
    · rw [e]; exact Nat.lt_succ_self _
    · rw [e]; exact Nat.lt_succ_of_lt hlt
  · obtain ⟨t, rfl⟩ := key_vals hk _ v hP
    obtain ⟨b1, b2⟩ := argBest_gt (fun i => is.getD i 0) (vs.length - 1)
    refine ⟨.int _, H, I.kept (t' := tk) fun b u e => hk' b u (fun hm => absurd (Heap.lt_size e) (by rw [List.mem_singleton.mp hm]; exact Nat.lt_irrefl _)) (Heap.get?_push_of_some _ e), ⟨t, rfl⟩, q _ ?_ fun j hj => ?_⟩
    · rw [list_getD (by omega)]; exact List.getElem_mem _
    · obtain ⟨i, hi, e⟩ := List.mem_iff_getElem.mp hj
      have e2 := b2 i (by omega)
      simp only [list_getD hi, e] at e2
      exact e2
end
section
variable {K : PySem.W.Frag}
def keysI (kvs : List (D × D)) : Option (List Int) := ints? (kvs.map (·.1))
def gKeyM (m : List Int → Option Int) (g : List D → Option D) (ds : List D) : Option D := match ds with
  | [.dct _ false kvs] => (keysI kvs).bind fun is => (m is).map .int
  | _ => g ds
theorem keys_inl0 : ∀ {ws : List (Key × V)} {is : List Int}, (ws.map fun p => kD p.1) = is.map D.int → ws.map (·.1) = is.map Sum.inl
  | [], [], _ => rfl
  | [], _ :: _, h => by cases h
  | _ :: _, [], h => by cases h
  | (k, v) :: r, i :: is, h => by
    rw [List.map_cons, List.map_cons] at h
    injection h with h1 h2
    have ih := keys_inl0 h2
    cases k with
    | inl j => cases h1; rw [List.map_cons, List.map_cons, ih]
    | inr s => cases h1
theorem cs_keyM {le : Int → Int → Prop} {m : List Int → Option Int} {r : List V → Hp → VK → Prop} {g : List D → Option D} (hm : ∀ is x, m is = some x → x ∈ is ∧ ∀ j ∈ is, le x j) (hu : ∀ is x y, m is = some x → y ∈ is → (∀ j ∈ is, le y j) → y = x) (hs : ClS K r g) :
    ClS K (fun xs H Q => r xs H Q ∨ rKeyM le xs H Q) (gKeyM m g) := fun Z H ds vs F1 d Q rs hg q => by
  unfold gKeyM at hg
  split at hg
  · rename_i o kvs
    obtain ⟨is, h1, hg⟩ := Option.bind_eq_some_iff.mp hg
    obtain ⟨x, h2, rfl⟩ := Option.map_eq_some_iff.mp hg
    obtain ⟨v, rfl, rv⟩ := rs.one_inv
    obtain ⟨a, ws, G, rfl, hr, dr, _⟩ := rv.dct_rd
    have hk : ws.map (·.1) = is.map Sum.inl := keys_inl0 (by rw [← dr.ks]; exact ints?_of h1)
    refine .inr ⟨a, ws, is, rfl, hr, hk, fun e => ?_, fun y hy hle => ?_⟩
    · subst e
      have := (hm _ _ h2).1
      cases this
    · rw [hu is x y h2 hy hle]
      exact q _ H [] (Keep.refl _ _) (.int _) List.nodup_nil fun _ h => (by cases h)
  · exact .inl (hs Z H ds vs F1 d Q rs hg q)
theorem minI_ok (is : List Int) (x : Int) (h : minI is = some x) : x ∈ is ∧ ∀ j ∈ is, x ≤ j := by
  cases is with
  | nil => cases h
  | cons n r => cases h; exact foldl_min r n
theorem maxI_ok (is : List Int) (x : Int) (h : maxI is = some x) : x ∈ is ∧ ∀ j ∈ is, j ≤ x := by
  cases is with
  | nil => cases h
  | cons n r => cases h; exact foldl_max r n
def gMinA := gKeyM minI gMin
def gMaxA := gKeyM maxI gMax
theorem cs_minA : ClS K (fun xs H Q => rMinV K xs H Q ∨ rKeyM (fun m j => m ≤ j) xs H Q) gMinA :=
  cs_keyM minI_ok (fun is x y h hy hl => Int.le_antisymm (hl x (minI_ok is x h).1) ((minI_ok is x h).2 y hy)) cs_min
theorem cs_maxA : ClS K (fun xs H Q => rMaxV K xs H Q ∨ rKeyM (fun m j => j ≤ m) xs H Q) gMaxA :=
  cs_keyM maxI_ok (fun is x y h hy hl => Int.le_antisymm ((maxI_ok is x h).2 y hy) (hl x (maxI_ok is x h).1)) cs_max
end
theorem call_minA {X : Cx} (hc : X.calm = true) : CallR X (.builtin "min") (fun xs H Q => rMinV X.K xs H Q ∨ rKeyM (fun m j => m ≤ j) xs H Q) := CallR.or (call_minV hc) (cr_keyMin hc)
theorem call_maxA {X : Cx} (hc : X.calm = true) : CallR X (.builtin "max") (fun xs H Q => rMaxV X.K xs H Q ∨ rKeyM (fun m j => j ≤ m) xs H Q) := CallR.or (call_maxV hc) (cr_keyMax hc)
end Vl

namespace Vl
open PySem PySem.Spec PyProof.Rows L2

/-! ### range(a, b, -1) -/
def rgDown (i : Int) (n : Nat) : List D := (List.range n).map fun k => .int (i - (k : Nat))
theorem rgDown_length (i : Int) (n : Nat) : (rgDown i n).length = n := by unfold rgDown; rw [List.length_map, List.length_range]
theorem rgDown_get {i : Int} {n k : Nat} {d : D} (h : (rgDown i n)[k]? = some d) : d = .int (i - (k : Nat)) := by
  unfold rgDown at h
  rw [List.getElem?_map] at h
  obtain ⟨j, hj, rfl⟩ := Option.map_eq_some_iff.mp h
  have hk : k < n := by simpa using (List.getElem?_eq_some_iff.mp hj).1
  rw [List.getElem?_range hk] at hj
  cases hj
  rfl
def downOf (ds : List D) : Option (Int × Nat) := match ds with
  | [.int i, .int j, .int (-1)] => if (okR i && okR j) = true then some (i, (i - j).toNat) else none
  | _ => none
def iRg3 (fr : M (List D)) : M (List D) := fun ρ => (fr ρ).bind fun p => (downOf p.1).bind fun q => some (rgDown q.1 q.2, p.2)
section
variable {X : Cx} {T T1 O O1 W : List Nat} {x x1 : Bool} {a b c e tg : Expr} {f : M D} {fr : M (List D)} {p pos p2 pos2 : Pos}
theorem Rs.ints3 {K : PySem.W.Frag} {Z : Addr → Prop} {H : Hp} {i j k : Int} {vs : List V} {F : List Addr} (rs : Rs K Z H [.int i, .int j, .int k] vs F) : vs = [.int i, .int j, .int k] := by
  obtain ⟨v, ws, F1, F2, rfl, rfl, r, rs⟩ := rs.uncons
  rw [r.int_inv, rs.ints2]
theorem downOf_some {ds : List D} {q : Int × Nat} (h : downOf ds = some q) : ∃ j : Int, ds = [.int q.1, .int j, .int (-1)] ∧ q.2 = (q.1 - j).toNat ∧ -1000000000 ≤ q.1 ∧ q.1 ≤ 1000000000 ∧ -1000000000 ≤ j ∧ j ≤ 1000000000 := by
  unfold downOf at h
  split at h
  · rename_i i j
    split at h
    · rename_i ho
      cases h
      rw [Bool.and_eq_true] at ho
      obtain ⟨h1, h2⟩ := okR_of ho.1
      obtain ⟨h3, h4⟩ := okR_of ho.2
      exact ⟨j, rfl, rfl, h1, h2, h3, h4⟩
    · cases h
  · cases h
theorem piv_range3 (hg : Gl X "range") (hm : X.mg "range" = none) (ha : PAV X T O x [a, b, c] fr)
    (hs : starEach [a, b, c] X.env = (false, eval a X.env) :: starEach [b, c] X.env := by rfl) (hpl : (backTo pos (starEach [b, c] X.env)).any (·.1) = false := by rfl) : PIV X T [] tg (.Call (.Name "range" p) [a, b, c] [] pos) (iRg3 fr) := by
  refine PI.imp (pi_range3 hg hm ha hs hpl) fun σ H Rk h => ?_
  obtain ⟨Z, ρ, Fs, items, ρ', rel, hf, q⟩ := h
  unfold iRg3 at hf
  obtain ⟨⟨ds, ρ1⟩, h1, hf⟩ := Option.bind_eq_some_iff.mp hf
  obtain ⟨⟨i, n⟩, h2, hf⟩ := Option.bind_eq_some_iff.mp hf
  cases hf
  obtain ⟨j, hds, hnn, b1, b2, b3, b4⟩ := downOf_some h2
  simp only at hds b1 b2 hnn
  subst hnn
  subst hds
  refine ⟨Z, ρ, Fs, _, _, rel, h1, fun vs H' Z' Fs' F rel' f' w c => ?_⟩
  refine ⟨i, j, -1, (i - j).toNat, w.r.ints3, RgC.neg (by omega) (by omega) (by omega) (by omega), ?_⟩
  have wk := walk_rangeC (lo := i) (c := -1) (n := (i - j).toNat)
  have st : Stay X.K Z' H' [] (fun _ => True) (YFn fun k => .int (i + (k : Nat) * -1)) (rgDown i (i - j).toNat) := fun M Z2 H2 k hA hZ zz => by
    refine ⟨trivial, fun m v h d hy hd => ?_⟩
    obtain ⟨rfl, rfl⟩ := hy
    rw [rgDown_get hd]
    refine ⟨Keep.refl _ _, ?_⟩
    show R X.K Z2 h (.int (i - (m : Int))) (.int (i + (m : Int) * -1)) []
    rw [show i + (m : Int) * -1 = i - (m : Int) by omega]
    exact .int _
  exact q _ H' Z' Fs' [] _ _ rel' f' (by rw [rgDown_length]; exact wk) (fun _ _ h => (by cases h)) st
/-- tuple(range(a, b, -1)) -/
def tTupR3 (ta : TA) : TE := fun σ H Q => ta σ H fun vs H1 => ∃ (i j c : Int) (n : Nat), vs = [.int i, .int j, .int c] ∧ RgC i j c n ∧ n ≤ 2 ^ 24 ∧ ∀ q, H1 q = none → Q (.ref q) (upd H1 q (.tup ((List.range n).map fun k => V.int (i + (k : Nat) * c))))
theorem pe_tupR3 {ta : TA} (hc : X.calm = true) (hg : Gl X "tuple") (hm : X.mg "tuple" = none) (hg2 : Gl X "range") (hm2 : X.mg "range" = none) (ha : PA X [a, b, c] ta)
    (hs : starEach [a, b, c] X.env = (false, eval a X.env) :: starEach [b, c] X.env := by rfl) (hpl : (backTo pos2 (starEach [b, c] X.env)).any (·.1) = false := by rfl)
    (na : starEach [.Call (.Name "range" p2) [a, b, c] [] pos2] X.env = (false, eval (.Call (.Name "range" p2) [a, b, c] [] pos2) X.env) :: starEach [] X.env := by rfl) : PE X (.Call (.Name "tuple" p) [.Call (.Name "range" p2) [a, b, c] [] pos2] [] pos) (tTupR3 ta) := by
  refine ⟨fun pins s σ H Q I h => ?_⟩
  refine Call_ (ld_blt I hg hm boot_tuple (PyProof.Rows.callWith_type1 (args_cons (Call_ (ld_blt I hg2 hm2 boot_range (PyProof.Rows.callWith_type1 (thn (ha.run pos2 pins s σ H _ I h) fun us s1 ⟨vs, H1, I1, r1, q1⟩ => ?_) hs hpl))) na) na))
  obtain ⟨i, j, k, n, e, ⟨c0, c1, c2, c3⟩, hn, q⟩ := q1
  subst e
  obtain ⟨u, us, rfl, ⟨t, rfl⟩, rr⟩ : ∃ u r, us = u :: r ∧ RelV (V.int i) u ∧ Vals [V.int j, V.int k] r := by cases r1 with | cons h t => exact ⟨_, _, rfl, h, t⟩
  obtain ⟨u, v, rfl, ⟨t', rfl⟩, ⟨t'', rfl⟩⟩ := rr.two
  refine call_range_3 c0 (args_nil ?_) (.inl (PyProof.noPylong_small c1))
  have I2 : Inv X pins σ H1 { s1 with heap := s1.heap.push { cls := .type "range", data := .fields #[.int i t, .int j t', .int k t''] } } := I1.kept (t' := s1.toks) fun b o e => Heap.get?_push_of_some _ e
  refine call_tuple_range (n := n) (I2.ok.hd hc) (IsRange.new ..) c2 c3 hn fun h' tk acc hk hi => ?_
  have I3 : Inv X pins σ H1 { s1 with heap := h', toks := tk } := I2.kept hk
  have el : acc.toList.length = n := by rw [Array.length_toList]; exact hi.1
  have hv : Vals ((List.range n).map fun k' => V.int (i + (k' : Nat) * k)) acc.toList := by
    rw [← el]
    refine vals_of_get acc.toList _ fun m u hm => ?_
    obtain ⟨z, e⟩ := hi.2 m u (by rw [← hm, Array.getElem?_toList])
    exact ⟨z, e⟩
  refine ⟨.ref h'.objs.size, upd H1 h'.objs.size (.tup _), I3.laid (t' := tk) (fun c o e => Heap.get?_push_of_some _ e) (Nat.le_refl _) (show ObjOk X.prog X.w _ _ _ (.tup ((List.range n).map fun k' => V.int (i + (k' : Nat) * k))) from ⟨?_, acc.toList, hv, ?_⟩), rfl, q _ (I3.hok.fresh (Nat.le_refl _))⟩
  · rw [List.length_map, List.length_range, sizeLine_eq]; omega
  · rw [Array.toArray_toList]; exact IsTup.new _ _
def fTupRg3 (fr : M (List D)) : M D := fun ρ => (fr ρ).bind fun p => (downOf p.1).bind fun q => if decide (q.2 ≤ 100000) = true then some (.tup (rgDown q.1 q.2), p.2) else none
theorem rs_down {K : PySem.W.Frag} {Z : Addr → Prop} {H : Hp} (i : Int) (n : Nat) : Rs K Z H (rgDown i n) ((List.range n).map fun k => V.int (i + (k : Nat) * -1)) [] := by
  unfold rgDown
  induction (List.range n) with
  | nil => exact .nil
  | cons k r ih =>
    refine .cons0 ?_ ih
    show R K Z H (.int (i - (k : Int))) (.int (i + (k : Int) * -1)) []
    rw [show i + (k : Int) * -1 = i - (k : Int) by omega]
    exact .int _
theorem pev_tupRg3 (hc : X.calm = true) (hg : Gl X "tuple") (hm : X.mg "tuple" = none) (hg2 : Gl X "range") (hm2 : X.mg "range" = none) (ha : PAV X T O x [a, b, c] fr)
    (hs : starEach [a, b, c] X.env = (false, eval a X.env) :: starEach [b, c] X.env := by rfl) (hpl : (backTo pos2 (starEach [b, c] X.env)).any (·.1) = false := by rfl)
    (na : starEach [.Call (.Name "range" p2) [a, b, c] [] pos2] X.env = (false, eval (.Call (.Name "range" p2) [a, b, c] [] pos2) X.env) :: starEach [] X.env := by rfl) : PEV X T [] true (.Call (.Name "tuple" p) [.Call (.Name "range" p2) [a, b, c] [] pos2] [] pos) (fTupRg3 fr) := by
  refine PE.imp (pe_tupR3 hc hg hm hg2 hm2 ha hs hpl na) fun σ H Q h => ?_
  obtain ⟨Z, ρ, Fs, d, ρ', rel, hf, q⟩ := h
  unfold fTupRg3 at hf
  obtain ⟨⟨ds, ρ1⟩, h1, hf⟩ := Option.bind_eq_some_iff.mp hf
  obtain ⟨⟨i, n⟩, h2, hf⟩ := Option.bind_eq_some_iff.mp hf
  split at hf
  · rename_i hz
    cases hf
    obtain ⟨j, hds, hnn, b1, b2, b3, b4⟩ := downOf_some h2
    simp only at hds b1 b2 hnn
    subst hnn
    subst hds
    refine ⟨Z, ρ, Fs, _, _, rel, h1, fun vs H' Z' Fs' F rel' f' w c => ?_⟩
    have hz := of_decide_eq_true hz
    refine ⟨i, j, -1, (i - j).toNat, w.r.ints3, RgC.neg (by omega) (by omega) (by omega) (by omega), by simp only at hz; omega, fun p hp => ?_⟩
    refine new_tup hp (rs_down (K := X.K) (Z := Z') i _) fun v H2 F k r nd nw => ?_
    have fz := f'.trans (Frm.pureT [] k)
    rw [List.append_nil] at fz
    exact q v H2 Z' Fs' F (rel'.keep0 k) fz (Val.new rel' r nd nw) (Cf.new f'.keep nw)
  · cases hf

/-! ### reversed -/
def iRev (f : M D) : M (List D) := fun ρ => (f ρ).bind fun p => (itemsOf p.1).bind fun l => some (l.reverse, p.2)
theorem walk_revT {K : PySem.W.Frag} {a : Addr} {xs : List V} : Walk (RT.ItvT K a xs.length) xs.length (fun H => SqT K H a xs) (fun i H x H' => H' = H ∧ xs[xs.length - 1 - i]? = some x) :=
  ⟨fun i _ hi q => ⟨hi, xs, xs[xs.length - 1 - i]'(by omega), q, by simp [show xs.length - 1 - i < xs.length by omega]⟩, fun _ _ => Nat.le_refl _, fun _ _ _ _ _ q y => ⟨y.1, y.2 xs q⟩⟩
theorem stay_rev {K : PySem.W.Frag} {Z : Addr → Prop} {H : Hp} {A : List Addr} {G : Hp → Prop} {l : List D} {xs : List V} (hl : l.length = xs.length)
    (st : ∀ (M : Addr → Prop) (Z2 : Addr → Prop) (H2 : Hp), Keep M H H2 → (∀ a ∈ A, ¬ M a) → (∀ a, Z a → ¬ M a) → (∀ a, Z a → Z2 a) → G H2 ∧ Rs K Z2 H2 l xs []) :
    Stay K Z H A G (fun i H x H' => H' = H ∧ xs[xs.length - 1 - i]? = some x) l.reverse := fun M Z2 H2 k hA hZ zz => by
  obtain ⟨g, rs⟩ := st M Z2 H2 k hA hZ zz
  refine ⟨g, fun i v h d hy hi => ?_⟩
  obtain ⟨rfl, hx⟩ := hy
  have hlt : i < l.length := by
    have := (List.getElem?_eq_some_iff.mp hi).1
    simpa using this
  rw [List.getElem?_reverse hlt, hl] at hi
  exact ⟨Keep.refl _ _, rs.at0 hi hx⟩
theorem piv_rev (hg : Gl X "reversed") (hm : X.mg "reversed" = none) (he : PEV X T O x e f) (hs : starEach [e] X.env = (false, eval e X.env) :: starEach [] X.env := by rfl) : PIV X T O tg (.Call (.Name "reversed" p) [e] [] pos) (iRev f) := by
  refine PI.imp (RT.pi_revA hg hm he hs) fun σ H Rk h => ?_
  obtain ⟨Z, ρ, Fs, items, ρ', rel, hf, q⟩ := h
  unfold iRev at hf
  obtain ⟨⟨d, ρ1⟩, h1, hf⟩ := Option.bind_eq_some_iff.mp hf
  obtain ⟨l, h2, hf⟩ := Option.bind_eq_some_iff.mp hf
  cases hf
  refine ⟨Z, ρ, Fs, d, _, rel, h1, fun v H' Z' Fs' F rel' f' w c => ?_⟩
  cases d <;> simp only [itemsOf] at h2 <;> try (cases h2)
  · split at h2
    · rename_i hn
      cases h2
      obtain ⟨a, vs, e, hq, hl, st⟩ := w.r.tup_keep (Z' := Z') (H' := H') hn
      refine ⟨a, vs, e, .inr ⟨hq, ?_⟩⟩
      have wk := walk_revT (K := X.K) (a := a) (xs := vs)
      have e2 : (l.reverse).length = vs.length := by rw [List.length_reverse]; exact hl
      refine q _ H' Z' Fs' F _ _ rel' f' (by rw [e2]; exact wk) w.ori (stay_rev hl fun M Z2 H2 k _ hZ zz => st M Z2 H2 k hZ zz)
    · cases h2
  · split at h2
    · rename_i hn
      cases h2
      obtain ⟨a, vs, e, hq, hl, st⟩ := w.r.lst_keep (Z' := Z') (H' := H') hn
      refine ⟨a, vs, e, .inl ⟨hq, ?_⟩⟩
      have wk := walk_rev (K := X.K) (a := a) (xs := vs)
      have e2 : (l.reverse).length = vs.length := by rw [List.length_reverse]; exact hl
      refine q _ H' Z' Fs' F _ _ rel' f' (by rw [e2]; exact wk) w.ori (stay_rev hl st)
    · cases h2
  · split at h2
    · cases h2
      obtain ⟨a, vs, e, hq, hl, st⟩ := w.r.scr_keep (Z' := Z') (H' := H')
      refine ⟨a, vs, e, .inl ⟨hq, ?_⟩⟩
      have wk := walk_rev (K := X.K) (a := a) (xs := vs)
      have e2 : (l.reverse).length = vs.length := by rw [List.length_reverse]; exact hl
      refine q _ H' Z' Fs' F _ _ rel' f' (by rw [e2]; exact wk) w.ori (stay_rev hl st)
    · cases h2
end
end Vl

namespace Vl
open PySem PySem.Spec PyProof.Rows L2

/-! ### {k: v, ..} -/
def fPairs : List (M D × M D) → M (List (D × D))
  | [] => fun ρ => some ([], ρ)
  | (fk, fv) :: r => fun ρ => (fk ρ).bind fun p => (fv p.2).bind fun q => (fPairs r q.2).bind fun s => if (p.1.noOwn && q.1.noOwn && (keyOf p.1).isSome) = true then some ((p.1, q.1) :: s.1, s.2) else none
def fDisp (ps : List (M D × M D)) : M D := fun ρ => (fPairs ps ρ).bind fun p => some (.dct true false (p.1.foldl (fun acc kv => putD acc kv.1 kv.2) []), p.2)
/-- rules for the pairs -/
structure PPV (X : Cx) (pos : Pos) (T : List Nat) (keys : List (Option Expr)) (values : List Expr) (ps : List (M D × M D)) : Prop where
  ok : ∃ trs, PPs X pos keys values trs ∧ ∀ (Q : List (V × V) → Hp → Prop) (σ : L2.St) (Z : Addr → Prop) (ρ : Env) (Fs : Ft) (H : Hp) (kvs : List (D × D)) (ρ' : Env), Rel X.K Z ρ σ H Fs → fPairs ps ρ = some (kvs, ρ') →
    (∀ (ws : List (Key × V)) (H' : Hp) (Z' : Addr → Prop) (Fs' : Ft), Rel X.K Z' ρ' σ H' Fs' → Frm T Z ρ Fs H Z' ρ' Fs' H' → DRel X.K Z' H' kD kvs ws [] → Q (ws.map fun kv => (kV kv.1, kv.2)) H') → tPairs trs σ H Q
section
variable {X : Cx} {T1 T2 T3 O1 O2 : List Nat} {x1 x2 : Bool} {k v : Expr} {ks : List (Option Expr)} {vs : List Expr} {fk fv : M D} {ps : List (M D × M D)} {pos : Pos}
theorem ppv_nil : PPV X pos [] [] [] [] := ⟨[], pps_nil, fun Q σ Z ρ Fs H kvs ρ' rel hf q => by
  cases hf
  exact q [] H Z Fs rel (Frm.refl _) ⟨rfl, .nil⟩⟩
theorem ppv_cons (hk : PEV X T1 O1 x1 k fk) (hv : PEV X T2 O2 x2 v fv) (hr : PPV X pos T3 ks vs ps) : PPV X pos (T1 ++ (T2 ++ T3)) (some k :: ks) (v :: vs) ((fk, fv) :: ps) := by
  obtain ⟨trs, h1, h2⟩ := hr.ok
  refine ⟨_, pps_cons hk hv h1, fun Q σ Z ρ Fs H kvs ρ' rel hf q => ?_⟩
  unfold fPairs at hf
  obtain ⟨⟨dk, ρ1⟩, e1, hf⟩ := Option.bind_eq_some_iff.mp hf
  obtain ⟨⟨dv, ρ2⟩, e2, hf⟩ := Option.bind_eq_some_iff.mp hf
  obtain ⟨⟨rest, ρ3⟩, e3, hf⟩ := Option.bind_eq_some_iff.mp hf
  split at hf
  · rename_i hn
    cases hf
    simp only [Bool.and_eq_true] at hn
    obtain ⟨⟨n1, n2⟩, n3⟩ := hn
    obtain ⟨kk, hkk⟩ := Option.isSome_iff_exists.mp n3
    refine ⟨Z, ρ, Fs, dk, ρ1, rel, e1, fun w1 H1 Z1 Fs1 F1 rel1 f1 v1 c1 => ?_⟩
    refine ⟨Z1, ρ1, Fs1, dv, ρ2, rel1, e2, fun w2 H2 Z2 Fs2 F2 rel2 f2 v2 c2 => ?_⟩
    refine h2 _ σ Z2 ρ2 Fs2 H2 rest _ rel2 e3 fun ws H3 Z3 Fs3 rel3 f3 dr => ?_
    obtain ⟨rfl, rfl⟩ := v1.r.key hkk
    have e := v2.r.no n2
    have r2 := v2.r
    rw [e] at r2
    have r3 := r2.keep f3.keep f3.zz (fun a z ⟨j, hj, ha⟩ => rel2.nz j a ha z) fun _ h => (by cases h)
    exact q ((kk, w2) :: ws) H3 Z3 Fs3 rel3 (f1.trans (f2.trans f3)) (DRel.cons0 rfl r3 dr)
  · cases hf
theorem DRel.merge {K : PySem.W.Frag} {Z : Addr → Prop} {H : Hp} : ∀ {more : List (D × D)} {rs : List (Key × V)} {kvs : List (D × D)} {ws : List (Key × V)}, DRel K Z H kD more rs [] → DRel K Z H kD kvs ws [] → DRel K Z H kD (more.foldl (fun acc kv => putD acc kv.1 kv.2) kvs) (mergeK ws rs) []
  | [], rs, kvs, ws, r, r0 => by rw [r.nil_]; exact r0
  | p :: more, rs, kvs, ws, r, r0 => by
    obtain ⟨q, qs, F1, F2, rfl, k1, e0, r1, r2⟩ := r.uncons
    obtain ⟨e1, e2⟩ := app_eq_nil e0.symm
    subst e1 e2
    have e : DRel K Z H kD (putD kvs p.1 p.2) (putK ws q.1 q.2) [] := by rw [k1]; exact r0.put kEq_kD r1
    have ih := DRel.merge r2 e
    exact ih
theorem pev_disp {keys : List (Option Expr)} {values : List Expr} (h : PPV X pos T1 keys values ps) (hall : keys.all (·.isSome) = true := by rfl) (hl : keys.length = values.length := by rfl) (h0 : keys ≠ [] := by simp) (h15 : keys.length ≤ 15 := by decide) (hps : ps.length ≤ 15 := by decide) :
    PEV X T1 [] true (.Dict keys values pos) (fDisp ps) := by
  obtain ⟨trs, h1, h2⟩ := h.ok
  refine PE.imp (pe_disp h1 hall hl h0 h15) fun σ H Q h => ?_
  obtain ⟨Z, ρ, Fs, d, ρ', rel, hf, q⟩ := h
  unfold fDisp at hf
  obtain ⟨⟨kvs, ρ1⟩, e1, hf⟩ := Option.bind_eq_some_iff.mp hf
  cases hf
  intro p hp
  have k0 : Keep M0 H (upd H p (.dK [])) := Keep.new hp
  have rel0 := rel.keep0 k0
  refine h2 _ σ Z ρ Fs _ kvs _ rel0 e1 fun ws H' Z' Fs' rel' f' dr => ?_
  have np : ∀ j, p ∉ Fs j := fun j h => rel.ft j p h hp
  have hpp : H' p = some (.dK []) := f'.keep.out p _ upd_same fun ⟨j, _, h⟩ => np j h
  have hlen : ws.length ≤ 15 := by
    have e := congrArg List.length dr.ks
    rw [List.length_map, List.length_map] at e
    have : ∀ (ps : List (M D × M D)) (ρ : Env) (kvs : List (D × D)) (ρ' : Env), fPairs ps ρ = some (kvs, ρ') → kvs.length = ps.length := by
      intro ps
      induction ps with
      | nil => intro ρ kvs ρ' h; cases h; rfl
      | cons a r ih =>
        intro ρ kvs ρ' h
        unfold fPairs at h
        obtain ⟨_, _, h⟩ := Option.bind_eq_some_iff.mp h
        obtain ⟨_, _, h⟩ := Option.bind_eq_some_iff.mp h
        obtain ⟨⟨rest, ρ3⟩, e3, h⟩ := Option.bind_eq_some_iff.mp h
        split at h
        · cases h
          rw [List.length_cons, List.length_cons, ih _ _ _ e3]
        · cases h
    rw [← e, this _ _ _ _ e1]
    exact hps
  refine ⟨hpp, ws, rfl, hlen, ?_⟩
  -- the new dict is nobody's yet
  have nz : ¬ Z' p := fun z => by
    rcases f'.c3 p z with z | ⟨j, _, z⟩ | z
    · exact rel.zt p z hp
    · exact np j z
    · rw [upd_same] at z; cases z
  have nF : ∀ j, p ∉ Fs' j := fun j h => by
    by_cases hj : j ∈ T1
    · rcases f'.c1 j hj p h with ⟨m, _, z⟩ | z
      · exact np m z
      · rw [upd_same] at z; cases z
    · rw [(f'.sub j hj).1] at h; exact np j h
  have kw : Keep (fun a => a = p) H' (upd H' p (.dK (mergeK [] ws))) := Keep.wr hpp trivial
  have rel2 : Rel X.K Z' ρ1 σ (upd H' p (.dK (mergeK [] ws))) Fs' := ⟨fun i d e => let ⟨v, h1, h2⟩ := rel'.at_ i d e; ⟨v, h1, h2.keep kw (fun _ h => h) (fun a z e => nz (by rw [← e]; exact z)) fun a ha e => nF i (by rw [← e]; exact ha)⟩,
    rel'.nd, rel'.dj, rel'.nz, fun a h => kw.dom a (rel'.zt a h), fun i a h => kw.dom a (rel'.ft i a h), rel'.len⟩
  have dr2 := DRel.merge dr (⟨rfl, .nil⟩ : DRel X.K Z' H' kD [] [] [])
  have fK : Keep (fun a => ∃ j ∈ T1, a ∈ Fs j) H (upd H' p (.dK (mergeK [] ws))) := (k0.trans f'.keep (M := fun a => ∃ j ∈ T1, a ∈ Fs j) (fun _ h => h.elim) fun a h => .inl h).trans kw (fun _ h => h) fun a e => .inr (by rw [e]; exact hp)
  have nn : ∀ {a : Addr}, upd H p (.dK []) a = none → H a = none := fun {a} h => by
    by_cases e : a = p
    · rw [e]; exact hp
    · rwa [upd_ne e] at h
  exact q (.ref p) _ Z' Fs' [p] rel2 ⟨f'.sub, fK, fun j hj a ha => (f'.c1 j hj a ha).imp id nn, fun a h => (f'.c3 a h).imp id fun h => h.imp id nn, f'.zz, f'.len⟩
    ⟨DRel.at upd_same ⟨dr2.ks, dr2.rs.keep kw (fun _ h => h) (fun a z e => nz (by rw [← e]; exact z)) fun _ h => (by cases h)⟩, fun j a h1 h2 => absurd h2 (by rw [List.mem_singleton.mp h1]; exact nF j), fun _ => ⟨by simp, fun a ha => by rw [List.mem_singleton.mp ha]; exact nz⟩⟩
    fun _ a ha => .inr (by rw [List.mem_singleton.mp ha]; exact hp)
end
end Vl

namespace Vl
open PySem PySem.Spec PyProof.Rows L2
section
variable {X : Cx} {T O W Wg Tg Wb Tb Tt Te : List Nat} {x : Bool} {tg iter elt e : Expr} {ifs : List Expr} {pos npos : Pos} {y : Str} {g : D → Env → Option Env} {fi : M (List D)} {ft : M Bool} {fe : M D}
theorem pev_lcV {scope : Scope} {own : List (Str × Nat)} (vs : List Nat) (hc : X.calm = true) (hN : X.N.Nodup) (hi : PIV X T O tg iter fi) (ok : BlkOk X.N X.env.scope scope own)
    (hg : ∀ (s : Shared) (H : Hp) (C : Addr) (cl : List (Str × Addr)) (fp : List Addr), PGV (X.blk s H scope (compEnvC scope cl C X.env) fp) Wg Tg tg g) (ht : ∀ (s : Shared) (H : Hp) (C : Addr) (cl : List (Str × Addr)) (fp : List Addr), PTsV (X.blk s H scope (compEnvC scope cl C X.env) fp) Tt ifs ft)
    (he : ∀ (s : Shared) (H : Hp) (C : Addr) (cl : List (Str × Addr)) (fp : List Addr), PEV (X.blk s H scope (compEnvC scope cl C X.env) fp) Te [] true elt fe) (hvs : own.map (·.2) = vs := by rfl) (hW : Wg.all (fun i => vs.contains i) = true := by rfl) (ho : O.all (fun i => !(vs ++ (Tg ++ (Tt ++ Te))).contains i) = true := by rfl)
    (hs : ∀ x, foldedSetIterable iter X.env x = pure x := by intro _; rfl) :
    PEV X (T ++ ((vs ++ (Tg ++ (Tt ++ Te))) ++ vs)) [] true (.ListComp elt [⟨tg, iter, ifs, 0⟩] scope pos) (fComp vs fi g ft fe) := by
  subst hvs
  exact pev_lc hc hN hi ok hg ht he hW ho hs
theorem pev_lcDV {scope : Scope} {own : List (Str × Nat)} (vs : List Nat) (i : Nat) (hc : X.calm = true) (hN : X.N.Nodup) (hi : PI X tg iter (tVIk X.K i)) (ok : BlkOk X.N X.env.scope scope own)
    (hg : ∀ (s : Shared) (H : Hp) (C : Addr) (cl : List (Str × Addr)) (fp : List Addr), PGV (X.blk s H scope (compEnvC scope cl C X.env) fp) Wg Tg tg g) (ht : ∀ (s : Shared) (H : Hp) (C : Addr) (cl : List (Str × Addr)) (fp : List Addr), PTsV (X.blk s H scope (compEnvC scope cl C X.env) fp) Tt ifs ft)
    (he : ∀ (s : Shared) (H : Hp) (C : Addr) (cl : List (Str × Addr)) (fp : List Addr), PEV (X.blk s H scope (compEnvC scope cl C X.env) fp) Te [] true elt fe) (hvs : own.map (·.2) = vs := by rfl) (hW : Wg.all (fun i => vs.contains i) = true := by rfl)
    (hs : ∀ x, foldedSetIterable iter X.env x = pure x := by intro _; rfl) :
    PEV X (i :: ([] ++ ((vs ++ (Tg ++ (Tt ++ Te))) ++ vs))) [] true (.ListComp elt [⟨tg, iter, ifs, 0⟩] scope pos) (fDk i (fComp vs (iKy i) g ft fe)) := by
  subst hvs
  exact pev_lcD i hc hN hi ok hg ht he hW hs
end
end Vl

namespace Vl
open PySem PySem.Spec PyProof.Rows L2

/-! ### tuple(reversed(a tuple)) -/
theorem Walks.rt {prog : Program} {w : World} {A : Around} (hh : A.handled = none) (I t : Addr) (hne : t ≠ I) (items : Array Value) (hz : items.size ≤ sizeLine) :
    Walks prog w A I [I, t] [I] items.size (fun i v => items[items.size - 1 - i]? = some v) (fun i h => i ≤ items.size ∧ RT.IsRt h I t ((items.size : Int) - 1 - (i : Int)) ∧ IsTup h t items) where
  sub := fun b hb => by simp at hb; simp [hb]
  frame := fun _ _ _ x hk => ⟨x.1, x.2.1.at fun o e => hk I (by simp) o e, by
    obtain ⟨o, ho, r⟩ := x.2.2
    exact ⟨o, hk t (by simp) o ho, r⟩⟩
  item := fun i s Q E hi x hQ => by
    obtain ⟨x1, x2, x3⟩ := x
    have e : (items.size : Int) - 1 - (i : Int) = ((items.size - 1 - i : Nat) : Int) := by omega
    rw [e] at x2
    have hx : items[items.size - 1 - i]? = some (items[items.size - 1 - i]'(by omega)) := Array.getElem?_eq_getElem (by omega)
    refine RT.next_rt_item x2 x3 hx hz fun h' hit' hs' => ?_
    have e2 : ((items.size - 1 - i : Nat) : Int) - 1 = (items.size : Int) - 1 - ((i + 1 : Nat) : Int) := by omega
    rw [e2] at hit'
    obtain ⟨o, ho, r⟩ := x3
    exact hQ _ h' _ hx ⟨hi, hit', o, (hs'.2 t hne).trans ho, r⟩ fun b o hb eo => hs'.extBut b o (fun h => hb (by simp [h])) eo
  done := fun s Q E x hQ => by
    obtain ⟨x1, x2, x3⟩ := x
    have e : (items.size : Int) - 1 - (items.size : Int) = -1 := by omega
    rw [e] at x2
    exact RT.next_rt_end hh x2 fun h' eb => hQ h' s.toks fun b o hb eo => eb b o (fun h => hb (by simp [h])) eo
  self := fun i s Q E x h => RT.iter_rt x.2.1 h
theorem rt_nolen : typeLookup (.type "reversed") "__len__" = pure none := by rw [typeLookup_type, builtinLookup_eq_fast]; kernel_rfl
theorem rt_hint : typeLookup (.type "reversed") "__length_hint__" = pure (some (.builtin "reversed.__length_hint__")) := by rw [typeLookup_type, builtinLookup_eq_fast]; kernel_rfl
section
variable {prog : Program} {w : World} {A : Around} {E : Value → Shared → Prop} {s : Shared}
theorem rt_entry_hint : entryFor table "reversed.__length_hint__" = some Builtin.«reversed.__length_hint__» := entryFor_of_tree (by kernel_rfl)
theorem rt_slot_hint : Slot "reversed" "__length_hint__" "reversed.__length_hint__" :=
  .of (owner := "reversed") (n := "__length_hint__") rt_hint (by decide +kernel) (by decide +kernel) (by decide +kernel)
    (by first | exact .inl (by decide +kernel) | exact .inr (by decide +kernel)) (by rw [isSubtype_type]; kernel_rfl)
theorem rt_args_hint (a : Value) : argsOk "reversed.__length_hint__" ⟨[a], []⟩ := by
  unfold argsOk
  rw [signature?_of (id := "reversed.__length_hint__") (n := ['_', '_', 't', 'n', 'i', 'h', '_', 'h', 't', 'g', 'n', 'e', 'l', '_', '_']) (o := ['d', 'e', 's', 'r', 'e', 'v', 'e', 'r']) (by kernel_rfl) RT.owner_rt]
  kernel_rfl
theorem rt_lenhint {it t : Addr} {items : Array Value} {Q : Bool → Shared → Prop} (hit : RT.IsRt s.heap it t ((items.size : Int) - 1)) (ht : IsTup s.heap t items) (hz : items.size ≤ sizeLine) (h : ∀ b tk, Q b { s with toks := tk }) :
    wpAny (model prog w) A (Builtin.List.listLengthHint (.ref it)) Q E s := by
  have hT : s.TypeIs (.ref it) "reversed" := hit.typeIs
  unfold Builtin.List.listLengthHint
  refine wpAny_bind (wpAny_specialOf hT rt_nolen ?_)
  show wpAny _ A (specialOf (Value.ref it) (Str.ofString "__length_hint__") >>= _) _ _ _
  refine wpAny_bind (wpAny_specialOf hT rt_hint ?_)
  generalize hid : ("reversed.__length_hint__" : String) = id0
  wp_delta
  rw [show splitId id0 = some ("reversed", "__length_hint__") from by subst hid; decide +kernel]
  subst hid
  refine wpAny_bind (wpAny_isInstance (b := true) hT (by rw [isSubtype_type]; kernel_rfl) ?_)
  rw [if_neg (by decide)]
  try dsimp only
  rw [if_neg (by decide)]
  refine wpAny_bind (wpAny_rule ?_)
  rw [rt_slot_hint.bind]
  refine wpAny_bind (wpAny_pure ?_)
  try dsimp only
  refine wpAny_bind (wpAny_attempt (wpAny_call_entry rt_slot_hint hT rt_entry_hint ?_ (rt_args_hint _)))
  have hn := line63
  obtain ⟨o, ho, hc, hd⟩ := id hit
  unfold Builtin.«reversed.__length_hint__»
  refine wpAny_bind (wpAny_of_eq (a := Value.ref it) rfl ?_)
  try dsimp only
  refine wpAny_bind (wpAny_field ho hd (x := .ref t) rfl ?_)
  show wpAny _ _ (if (Value.ref t == Value.none) = true then _ else _) _ _ s
  rw [if_neg (show ¬ ((Value.ref t == Value.none) = true) from Bool.false_ne_true)]
  try dsimp only
  refine wpAny_bind (len_tuple ht (by omega) ?_)
  refine wpAny_bind (wpAny_of_eq (a := some ((items.size : Nat) : Int)) rfl ?_)
  try dsimp only
  refine wpAny_bind (wpAny_field (s := { s with toks := _ }) ho hd (x := rawInt ((items.size : Int) - 1)) rfl ?_)
  try dsimp only
  show wpAny _ _ (if ((items.size : Nat) : Int) < ((items.size : Int) - 1) + 1 then _ else retInt (((items.size : Int) - 1) + 1)) _ _ _
  rw [if_neg (by omega)]
  refine wpAny_bind (wpAny_mkInt ?_)
  refine wpAny_pure ⟨_, rfl, ?_⟩
  try dsimp only
  have e1 : ((items.size : Int) - 1) + 1 = (items.size : Int) := by omega
  rw [e1]
  have g1 : Builtin.List.listFitsIndex ((items.size : Nat) : Int) = true := fitsIndex_of (by omega) (by omega)
  have g2 : ¬ ((items.size : Nat) : Int) < 0 := by omega
  have g3 : Builtin.List.listTooLong ((items.size : Nat) : Int).toNat = false := by rw [Int.toNat_natCast]; exact notLongL hz
  generalize ((items.size : Nat) : Int) = n at g1 g2 g3 ⊢
  generalize s.toks + 1 + 1 = tk0
  refine wpAny_bind (wpAny_of_eq (a := some n) rfl ?_)
  dsimp only
  rw [if_neg (by rw [g1]; exact Bool.false_ne_true), if_neg g2, if_neg (by rw [g3]; exact Bool.false_ne_true)]
  exact wpAny_pure (h _ _)
theorem rt_collect {it t : Addr} {items : Array Value} {Q : List Value → Shared → Prop} (hh : A.handled = none) (hit : RT.IsRt s.heap it t ((items.size : Int) - 1)) (ht : IsTup s.heap t items) (hne : t ≠ it) (hn : items.size ≤ sizeLine)
    (hQ : ∀ (h' : Heap) (tk : Nat) (acc : Array Value), (∀ b o, b ≠ it → s.heap.get? b = some o → h'.get? b = some o) → ItemsOf (fun i v => items[items.size - 1 - i]? = some v) acc items.size → Q acc.toList { s with heap := h', toks := tk }) : wpAny (model prog w) A (collect (.ref it)) Q E s := by
  have W := (Walks.rt (prog := prog) (w := w) (A := A.in1) hh it t hne items hn).toS
  have hSi : s.heap.objs.size ≠ it := by obtain ⟨o, e, _⟩ := id hit; exact Nat.ne_of_gt (Heap.lt_size e)
  have hSl : s.heap.objs.size ≠ t := by obtain ⟨o, e, _⟩ := id ht; exact Nat.ne_of_gt (Heap.lt_size e)
  have hSf : s.heap.objs.size ∉ [it, t] := by simp [hSi, hSl]
  let ob : Obj := { cls := .type "list", data := .seq ([] : List Value).toArray }
  unfold collect
  refine wpAny_bind (wpAny_runValue (codeAny_builtin F.entry_proto_collect ?_))
  rw [Around.under_plainId F.plain_proto_collect _]
  show wpAny _ A.in1 (newList [] >>= fun l' => again (.builtin "list.__iadd__" ⟨[l', .ref it], []⟩)) _ _ s
  refine wpAny_bind (wpAny_newObj_type (wpAny_pure ⟨plainId_quiet F.plain_list_iadd _, codeAny_builtin F.entry_list_iadd ?_⟩))
  rw [Around.under_plainId F.plain_list_iadd _]
  have hS : (s.heap.push ob).get? s.heap.objs.size = some ob := Heap.get?_push_size _ rfl
  have hit1 : RT.IsRt (s.heap.push ob) it t ((items.size : Int) - 1) := hit.at fun o e => Heap.get?_push_of_some _ e
  have ht1 : IsTup (s.heap.push ob) t items := by obtain ⟨o, e, r⟩ := id ht; exact ⟨o, Heap.get?_push_of_some _ e, r⟩
  have hT : ({ s with heap := s.heap.push ob } : Shared).TypeIs (.ref it) "reversed" := RT.IsRt.typeIs (s := { s with heap := s.heap.push ob }) hit1
  have h1 : Builtin.List.listSameRef (.ref s.heap.objs.size) (.ref it) = false := by simp [Builtin.List.listSameRef, hSi]
  show wpAny _ A.in1 (Builtin.List.listExtendWith (.ref s.heap.objs.size) (.ref it) (.ref s.heap.objs.size)) _ _ { s with heap := s.heap.push ob }
  unfold Builtin.List.listExtendWith
  refine wpAny_bind (wpAny_typeOf hT ?_)
  rw [if_neg (by rw [h1]; decide)]
  refine wpAny_bind (RT.iter_rt (s := { s with heap := s.heap.push ob }) hit1 ?_)
  refine wpAny_bind (wpAny_holding (rt_lenhint (s := { s with heap := s.heap.push ob }) hit1 ht1 hn fun b tk => ?_))
  have e0 : ((items.size : Nat) : Int) - 1 - ((0 : Nat) : Int) = (items.size : Int) - 1 := by omega
  cases b with
  | false =>
    rw [if_neg (by decide)]
    refine wpAny_pure ⟨plainId_quiet F.plain_extend_loop _, codeAny_extend_loopS W hn _ hSf _ items.size 0 _ _ _ rfl (Nat.zero_le _) ⟨Nat.zero_le _, by rw [e0]; exact hit1, ht1⟩ hS (ItemsOf.nil _) fun s' acc' c' hm hS' hacc => ?_⟩
    show wpAny _ A (load s.heap.objs.size >>= _) _ _ s'
    refine wpAny_bind (wpAny_load hS' (wpAny_pure ?_))
    rw [Moved.eq_with hm]
    refine hQ s'.heap s'.toks acc' (fun b o hb e => hm.heap b o (fun hmem => ?_) (Heap.get?_push_of_some _ e)) hacc
    rcases List.mem_cons.mp hmem with e' | hmem
    · exact absurd (Heap.lt_size e) (by rw [e']; exact Nat.lt_irrefl _)
    · exact hb (List.mem_singleton.mp hmem)
  | true =>
    rw [if_pos (by rfl)]
    refine wpAny_bind (wpAny_rule (wpAny_bind ?_))
    show wpAny _ A.in1 (updateSeq s.heap.objs.size (·.push .none) >>= fun _ => updateSeq s.heap.objs.size (·.pop)) _ _ _
    refine wpAny_bind (wpAny_updateSeq hS rfl ?_)
    have hS₂ := Heap.get?_update_self (Obj.mapSeq (·.push Value.none)) hS rfl
    refine wpAny_updateSeq hS₂ rfl ?_
    have hS₃ := Heap.get?_update_self (Obj.mapSeq (·.pop)) hS₂ rfl
    have oth : ∀ b o, b ≠ s.heap.objs.size → (s.heap.push ob).get? b = some o → (((s.heap.push ob).update s.heap.objs.size (Obj.mapSeq (·.push Value.none))).update s.heap.objs.size (Obj.mapSeq (·.pop))).get? b = some o :=
      fun b o hb e => (Heap.get?_update_other _ _ (Ne.symm hb)).trans ((Heap.get?_update_other _ _ (Ne.symm hb)).trans e)
    have hit2 := hit1.at fun o e => oth it o (Ne.symm hSi) e
    obtain ⟨ot, hot, rt⟩ := ht1
    refine wpAny_pure ⟨plainId_quiet F.plain_extend_loop _, codeAny_extend_loopS W hn _ hSf _ items.size 0 _ _ _ rfl (Nat.zero_le _) ⟨Nat.zero_le _, by rw [e0]; exact hit2, ot, oth t ot (Ne.symm hSl) hot, rt⟩ hS₃ (ItemsOf.nil _) fun s' acc' c' hm hS' hacc => ?_⟩
    show wpAny _ A (load s.heap.objs.size >>= _) _ _ s'
    refine wpAny_bind (wpAny_load hS' (wpAny_pure ?_))
    rw [Moved.eq_with hm]
    refine hQ s'.heap s'.toks acc' (fun b o hb e => hm.heap b o (fun hmem => ?_) (oth b o (Nat.ne_of_lt (Heap.lt_size e)) (Heap.get?_push_of_some _ e))) hacc
    rcases List.mem_cons.mp hmem with e' | hmem
    · exact absurd (Heap.lt_size e) (by rw [e']; exact Nat.lt_irrefl _)
    · exact hb (List.mem_singleton.mp hmem)
theorem rt_code {it t : Addr} {items : Array Value} {Q₁ : Value → Shared → Prop} (hh : A.handled = none) (hit : RT.IsRt s.heap it t ((items.size : Int) - 1)) (ht : IsTup s.heap t items) (hne : t ≠ it) (hn : items.size ≤ sizeLine)
    (h : ∀ (h' : Heap) (tk : Nat) (acc : Array Value), (∀ b o, b ≠ it → s.heap.get? b = some o → h'.get? b = some o) → ItemsOf (fun i v => items[items.size - 1 - i]? = some v) acc items.size →
      Q₁ (.ref h'.objs.size) { s with heap := h'.push { cls := .type "tuple", data := .seq acc }, toks := tk }) : codeAny (model prog w) A (.call (.builtin "tuple.__new__") ⟨[.type "tuple", .ref it], []⟩) (wants Q₁ E) s := by
  refine codeAny_of_tree ?_
  show wpAny _ A.in1 (do checkBuiltinCall "tuple.__new__" ⟨[.type "tuple", .ref it], []⟩; again (.builtin "tuple.__new__" ⟨[.type "tuple", .ref it], []⟩)) _ _ s
  refine wpAny_bind (wpAny_of_eq (F.newCall_tuple_1 _) (wpAny_pure ⟨plainId_quiet F.plain_tuple_new _, codeAny_builtin F.entry_tuple_new ?_⟩))
  rw [Around.under_plainId F.plain_tuple_new _]
  have hsub := PySem.sub_tuple_self
  have hinit := PySem.init_tuple_lookup
  have hmh := PySem.madeHere_tuple
  have hTI : s.TypeIs (.ref it) "reversed" := hit.typeIs
  have hh1 : A.in1.handled = none := hh
  wp_walk using wpAny_typeOf hTI, rt_collect (A := A.in1) hh1 hit ht hne hn
  intro h' tk acc hk hacc
  show wpAny _ _ (Builtin.Tuple.tupleExact acc.toList.toArray >>= fun v => ret v) _ _ _
  unfold Builtin.Tuple.tupleExact
  have e : acc.toList.toArray = acc := by simp
  refine wpAny_bind (wpAny_newObj_type (wpAny_pure ?_) (by rw [e]; show acc.size ≤ sizeLine; rw [hacc.1]; exact hn))
  rw [e]
  exact h h' tk acc hk hacc
theorem rt_tuple {it t : Addr} {items : Array Value} {Q : Value → Shared → Prop} (hh : A.handled = none) (hit : RT.IsRt s.heap it t ((items.size : Int) - 1)) (ht : IsTup s.heap t items) (hne : t ≠ it) (hn : items.size ≤ sizeLine)
    (hQ : ∀ (h' : Heap) (tk : Nat) (acc : Array Value), (∀ b o, b ≠ it → s.heap.get? b = some o → h'.get? b = some o) → ItemsOf (fun i v => items[items.size - 1 - i]? = some v) acc items.size →
      Q (.ref h'.objs.size) { s with heap := h'.push { cls := .type "tuple", data := .seq acc }, toks := tk }) : wpAny (model prog w) A (call (.type "tuple") [.ref it]) Q E s := by
  refine callType_codes (Q₁ := fun obj s₁ => s₁.TypeIs obj "tuple" ∧ Q obj s₁) F.called_tuple (F.typeCall_tuple_1 _) F.entry_object_init
    (rt_code (A := A.in1) hh hit ht hne hn fun h' tk acc hk hacc => ⟨⟨_, Heap.get?_push_size _ rfl, rfl⟩, hQ h' tk acc hk hacc⟩) fun obj s₁ h₁ => ?_
  exact ⟨h₁.1, F.args_object_init_2 obj _, object_init_meets F.called_tuple.init.lookup F.called_tuple.made (by decide) prog w A.in1 _ s₁ ⟨h₁.1, rfl, h₁.2⟩⟩
end
/-- tuple(reversed(x)), x a list or a tuple -/
def tTupRvA (K : PySem.W.Frag) (te : TE) : TE := fun σ H Q => te σ H fun v H1 => ∃ (a : Addr) (xs : List V), v = .ref a ∧ (SqL K H1 a xs ∨ SqT K H1 a xs) ∧ ∀ q, H1 q = none → Q (.ref q) (upd H1 q (.tup xs.reverse))
section
variable {X : Cx} {T O : List Nat} {x : Bool} {f : M D} {e : Expr} {p p2 pos pos2 : Pos}
theorem pe_tupRvA {te : TE} (hc : X.calm = true) (hg : Gl X "tuple") (hm : X.mg "tuple" = none) (hg2 : Gl X "reversed") (hm2 : X.mg "reversed" = none) (he : PE X e te)
    (hs : starEach [e] X.env = (false, eval e X.env) :: starEach [] X.env := by rfl)
    (hs2 : starEach [.Call (.Name "reversed" p2) [e] [] pos2] X.env = (false, eval (.Call (.Name "reversed" p2) [e] [] pos2) X.env) :: starEach [] X.env := by rfl) :
    PE X (.Call (.Name "tuple" p) [.Call (.Name "reversed" p2) [e] [] pos2] [] pos) (tTupRvA X.K te) := by
  refine ⟨fun pins s σ H Q I h => ?_⟩
  refine Call_ (ld_blt I hg hm boot_tuple (PyProof.Rows.callWith_type1 (args_cons (Call_ (ld_blt I hg2 hm2 PyProof.Rows.boot_reversed (PyProof.Rows.callWith_type1 (args_cons (thn (he.run pins s σ H _ I h) fun u s1 ⟨v, H1, I1, r1, q1⟩ => args_nil ?_) hs) hs rfl))) hs2) hs2 rfl))
  obtain ⟨a, xs, ev, hq, q⟩ := q1
  subst ev
  obtain rfl : u = Value.ref a := r1
  obtain ⟨f0, f1, f2, f3, f4, f5⟩ := I1.fpOk (H' := H1) (b := s1.heap.objs.size) (Nat.le_refl _) (I1.hok.fresh (Nat.le_refl _))
  rcases hq with hq | hq
  · obtain ⟨its, rv, p', hz⟩ := I1.list hq
    refine call_reversed_list p'.isList (args_nil ?_)
    have I2 : Inv X pins σ H1 { s1 with heap := s1.heap.push (revObj a ((its.toArray.size : Int) - 1)) } := I1.kept (t' := s1.toks) fun b o e => Heap.get?_push_of_some _ e
    have hl := p'.isList
    have hne : a ≠ s1.heap.objs.size := by obtain ⟨o, ho, _⟩ := id hl; exact Nat.ne_of_lt (Heap.lt_size ho)
    refine RT.call_tuple_rev (s := { s1 with heap := s1.heap.push (revObj a ((its.toArray.size : Int) - 1)) }) (I1.ok.hd hc) ⟨_, Heap.get?_push_size _ rfl, rfl, rfl⟩ (hl.push _) hne (by rw [List.size_toArray, ← rv.length]; exact hz) fun h' tk acc hk hi => ?_
    have I3 : Inv X pins σ H1 { s1 with heap := h', toks := tk } := I2.turned (t' := tk) (fun b o hb e => hk b o hb e) f0 f1 f3 f4 f5
    exact ⟨.ref h'.objs.size, upd H1 h'.objs.size (.tup xs.reverse), I3.laid (t' := tk) (fun c o e => Heap.get?_push_of_some _ e) (Nat.le_refl _) (show ObjOk X.prog X.w _ _ _ (.tup xs.reverse) from ⟨by rw [List.length_reverse]; exact hz, acc.toList, RT.vals_rev rv hi, by rw [Array.toArray_toList]; exact IsTup.new _ _⟩), rfl, q _ (I3.hok.fresh (Nat.le_refl _))⟩
  · obtain ⟨its, rv, p', hz⟩ := I1.tuple hq
    have hn := line63
    have hl := rv.length
    have hne : a ≠ s1.heap.objs.size := by obtain ⟨o, ho, _⟩ := id p'; exact Nat.ne_of_lt (Heap.lt_size ho)
    refine RT.call_reversed_tup p' (fun A E Q k => len_tuple p' (by simp only [List.size_toArray] <;> omega) k) (args_nil ?_)
    have I2 : Inv X pins σ H1 { s1 with heap := s1.heap.push (RT.rtObj a ((its.toArray.size : Int) - 1)), toks := s1.toks + 1 + 1 } := I1.kept (t' := s1.toks + 1 + 1) fun b o e => Heap.get?_push_of_some _ e
    have ht2 : IsTup (s1.heap.push (RT.rtObj a ((its.toArray.size : Int) - 1))) a its.toArray := by obtain ⟨o, ho, r⟩ := id p'; exact ⟨o, Heap.get?_push_of_some _ ho, r⟩
    refine rt_tuple (s := { s1 with heap := s1.heap.push (RT.rtObj a ((its.toArray.size : Int) - 1)), toks := s1.toks + 1 + 1 }) (I1.ok.hd hc) ⟨_, Heap.get?_push_size _ rfl, rfl, rfl⟩ ht2 hne (by rw [List.size_toArray, ← hl]; exact hz) fun h' tk acc hk hi => ?_
    have I3 : Inv X pins σ H1 { s1 with heap := h', toks := tk } := I2.turned (t' := tk) (fun b o hb e => hk b o hb e) f0 f1 f3 f4 f5
    exact ⟨.ref h'.objs.size, upd H1 h'.objs.size (.tup xs.reverse), I3.laid (t' := tk) (fun c o e => Heap.get?_push_of_some _ e) (Nat.le_refl _) (show ObjOk X.prog X.w _ _ _ (.tup xs.reverse) from ⟨by rw [List.length_reverse]; exact hz, acc.toList, RT.vals_rev rv hi, by rw [Array.toArray_toList]; exact IsTup.new _ _⟩), rfl, q _ (I3.hok.fresh (Nat.le_refl _))⟩
theorem Rs.rev0 {K : PySem.W.Frag} {Z : Addr → Prop} {H : Hp} : ∀ {ds : List D} {vs : List V}, Rs K Z H ds vs [] → Rs K Z H ds.reverse vs.reverse []
  | [], vs, r => by cases r; exact .nil
  | d :: ds, vs, r => by
    obtain ⟨v, ws, F1, F2, rfl, e, r1, r2⟩ := r.uncons
    obtain ⟨e1, e2⟩ := app_eq_nil e.symm
    subst e1 e2
    rw [List.reverse_cons, List.reverse_cons]
    exact Rs.app (F := []) (G := []) r2.rev0 (Rs.one r1)
def fTupRev (f : M D) : M D := fun ρ => (f ρ).bind fun p => (itemsOf p.1).bind fun l => some (.tup l.reverse, p.2)
theorem itemsOf_any {d : D} {l : List D} {K : PySem.W.Frag} {Z : Addr → Prop} {H : Hp} {v : V} {F : List Addr} (h : itemsOf d = some l) (r : R K Z H d v F) : ∃ a vs, v = .ref a ∧ (SqL K H a vs ∨ SqT K H a vs) ∧ Rs K Z H l vs [] := by
  cases d <;> simp only [itemsOf] at h <;> try (cases h)
  · split at h
    · rename_i hn
      cases h
      obtain ⟨a, vs, e, hq, rs⟩ := r.tup_inv
      exact ⟨a, vs, e, .inr hq, rs.nil_of hn⟩
    · cases h
  · split at h
    · rename_i hn
      cases h
      obtain ⟨a, vs, G, e, hq, rs, _⟩ := r.lst_at
      exact ⟨a, vs, e, .inl hq, rs.nil_of hn⟩
    · cases h
  · split at h
    · cases h
      obtain ⟨a, vs, e, _, hq, rs⟩ := r.scr_at
      exact ⟨a, vs, e, .inl hq, rs⟩
    · cases h
theorem pev_tupRev (hc : X.calm = true) (hg : Gl X "tuple") (hm : X.mg "tuple" = none) (hg2 : Gl X "reversed") (hm2 : X.mg "reversed" = none) (he : PEV X T O x e f)
    (hs : starEach [e] X.env = (false, eval e X.env) :: starEach [] X.env := by rfl)
    (hs2 : starEach [.Call (.Name "reversed" p2) [e] [] pos2] X.env = (false, eval (.Call (.Name "reversed" p2) [e] [] pos2) X.env) :: starEach [] X.env := by rfl) :
    PEV X T [] true (.Call (.Name "tuple" p) [.Call (.Name "reversed" p2) [e] [] pos2] [] pos) (fTupRev f) := by
  refine PE.imp (pe_tupRvA hc hg hm hg2 hm2 he hs hs2) fun σ H Q h => ?_
  obtain ⟨Z, ρ, Fs, d, ρ', rel, hf, q⟩ := h
  unfold fTupRev at hf
  obtain ⟨⟨d1, ρ1⟩, h1, hf⟩ := Option.bind_eq_some_iff.mp hf
  obtain ⟨l, h2, hf⟩ := Option.bind_eq_some_iff.mp hf
  cases hf
  refine ⟨Z, ρ, Fs, d1, _, rel, h1, fun v H' Z' Fs' F rel' f' w c => ?_⟩
  obtain ⟨a, vs, e, hq, rs⟩ := itemsOf_any h2 w.r
  refine ⟨a, vs, e, hq, fun p hp => ?_⟩
  refine new_tup hp rs.rev0 fun v H2 F k r nd nw => ?_
  have fz := f'.trans (Frm.pureT [] k)
  rw [List.append_nil] at fz
  exact q v H2 Z' Fs' F (rel'.keep0 k) fz (Val.new rel' r nd nw) (Cf.new f'.keep nw)
end
end Vl

namespace Vl
open PySem PySem.Spec PyProof.Rows L2

/-! ### walks that nothing disturbs, comprehensions of two clauses -/
def StayR (K : PySem.W.Frag) (Z' : Addr → Prop) (H' : Hp) (G : Hp → Prop) (Y : Nat → Hp → V → Hp → Prop) (items : List D) : Prop :=
  ∀ (B : Addr → Prop) (Z2 : Addr → Prop) (H2 : Hp), Keep B H' H2 → (∀ a, Z' a → ¬ B a) → (∀ a, Z' a → Z2 a) → G H2 ∧ ∀ i x h d, Y i H2 x h → items[i]? = some d → Keep M0 H2 h ∧ R K Z2 h d x []
def tVIr (K : PySem.W.Frag) (T : List Nat) (f : M (List D)) : TI := fun σ H Rk => ∃ Z ρ Fs items ρ', Rel K Z ρ σ H Fs ∧ f ρ = some (items, ρ') ∧
  ∀ J H' Z' Fs' G Y, Rel K Z' ρ' σ H' Fs' → Frm T Z ρ Fs H Z' ρ' Fs' H' → Walk J items.length G Y → StayR K Z' H' G Y items → Rk J H'
abbrev PIVr (X : Cx) (T : List Nat) (tg e : Expr) (f : M (List D)) : Prop := PI X tg e (tVIr X.K T f)
section
variable {X : Cx} {T T1 O W Wg Tg Tt Te Wg1 Tg1 Tt1 : List Nat} {x : Bool} {a b e tg iter elt tg1 iter1 : Expr} {ifs ifs1 : List Expr} {f fe : M D} {fi fi1 fr : M (List D)} {ft ft1 : M Bool} {p pos : Pos} {g g1 : D → Env → Option Env}
theorem pivr_range1 (hg : Gl X "range") (hm : X.mg "range" = none) (ha : PAV X T O x [a] fr) (hs : starEach [a] X.env = [(false, eval a X.env)] := by rfl) : PIVr X T tg (.Call (.Name "range" p) [a] [] pos) (iRg1 fr) := by
  refine PI.imp (pi_range1 hg hm ha hs) fun σ H Rk h => ?_
  obtain ⟨Z, ρ, Fs, items, ρ', rel, hf, q⟩ := h
  unfold iRg1 at hf
  obtain ⟨⟨ds, ρ1⟩, h1, hf⟩ := Option.bind_eq_some_iff.mp hf
  split at hf
  · rename_i j e
    split at hf
    · rename_i hok
      cases hf
      obtain ⟨q1, q2⟩ := okR_of hok
      refine ⟨Z, ρ, Fs, ds, _, rel, h1, fun vs H' Z' Fs' F rel' f' w c => ?_⟩
      have e : ds = [.int j] := e
      subst e
      refine ⟨j, w.r.ints1, by omega, by omega, ?_⟩
      have wk := walk_range (lo := 0) (n := j.toNat)
      have st := stay_range (K := X.K) (Z := Z') (H := H') (lo := 0) (n := j.toNat)
      exact q _ H' Z' Fs' _ _ rel' f' (by rw [rgItems_length]; exact wk) fun B Z2 H2 k hz zz => st B Z2 H2 k (fun _ h => (by cases h)) hz zz
    · cases hf
  · cases hf
theorem pivr_range2 (hg : Gl X "range") (hm : X.mg "range" = none) (ha : PAV X T O x [a, b] fr) (hs : starEach [a, b] X.env = [(false, eval a X.env), (false, eval b X.env)] := by rfl) (hs2 : starEach [b] X.env = [(false, eval b X.env)] := by rfl) :
    PIVr X T tg (.Call (.Name "range" p) [a, b] [] pos) (iRg2 fr) := by
  refine PI.imp (pi_range2 hg hm ha hs hs2) fun σ H Rk h => ?_
  obtain ⟨Z, ρ, Fs, items, ρ', rel, hf, q⟩ := h
  unfold iRg2 at hf
  obtain ⟨⟨ds, ρ1⟩, h1, hf⟩ := Option.bind_eq_some_iff.mp hf
  split at hf
  · rename_i i j e
    split at hf
    · rename_i hok
      cases hf
      rw [Bool.and_eq_true] at hok
      obtain ⟨q1, q2⟩ := okR_of hok.1
      obtain ⟨q3, q4⟩ := okR_of hok.2
      refine ⟨Z, ρ, Fs, ds, _, rel, h1, fun vs H' Z' Fs' F rel' f' w c => ?_⟩
      have e : ds = [.int i, .int j] := e
      subst e
      have wk := walk_range (lo := i) (n := (j - i).toNat)
      have st := stay_range (K := X.K) (Z := Z') (H := H') (lo := i) (n := (j - i).toNat)
      have fin := q _ H' Z' Fs' _ _ rel' f' (by rw [rgItems_length]; exact wk) fun B Z2 H2 k hz zz => st B Z2 H2 k (fun _ h => (by cases h)) hz zz
      exact ⟨i, j, w.r.ints2, ⟨by omega, by omega, by omega, by omega⟩, fin⟩
    · cases hf
  · cases hf
def iSeqR (f : M D) : M (List D) := fun ρ => (f ρ).bind fun p => if p.1.noOwn = true then (itemsOf p.1).bind fun l => some (l, p.2) else none
theorem pivr_seq (h : PEV X T O x e f) : PIVr X T tg e (iSeqR f) := by
  refine PI.imp (pi_sq h) fun σ H Rk h => ?_
  obtain ⟨Z, ρ, Fs, items, ρ', rel, hf, q⟩ := h
  unfold iSeqR at hf
  obtain ⟨⟨d, ρ1⟩, h1, hf⟩ := Option.bind_eq_some_iff.mp hf
  split at hf
  · rename_i hno
    obtain ⟨l, h2, hf⟩ := Option.bind_eq_some_iff.mp hf
    cases hf
    refine ⟨Z, ρ, Fs, d, _, rel, h1, fun v H' Z' Fs' F rel' f' w c => ?_⟩
    have w0 := w.r
    have e0 := w0.no hno
    subst e0
    cases d <;> simp only [itemsOf] at h2 <;> try (cases h2)
    · split at h2
      · rename_i hn
        cases h2
        obtain ⟨a, vs, e, hq, hl, st⟩ := w0.tup_keep (Z' := Z') (H' := H') hn
        refine ⟨a, e, .inr ⟨vs, hq, ?_⟩⟩
        have wk := walk_tup (K := X.K) (a := a) (xs := vs)
        rw [← hl] at wk
        exact q _ H' Z' Fs' _ _ rel' f' wk fun B Z2 H2 k hz zz => (stay_tup (F := []) st) B Z2 H2 k (fun _ h => (by cases h)) hz zz
      · cases h2
    · split at h2
      · rename_i hn
        cases h2
        obtain ⟨a, vs, e, hq, hl, st⟩ := w0.lst_keep (Z' := Z') (H' := H') hn
        refine ⟨a, e, .inl ⟨vs, hq, ?_⟩⟩
        have wk := walk_list (K := X.K) (a := a) (xs := vs)
        rw [← hl] at wk
        exact q _ H' Z' Fs' _ _ rel' f' wk fun B Z2 H2 k hz zz => (stay_list st) B Z2 H2 k (fun _ h => (by cases h)) hz zz
      · cases h2
    · split at h2
      · cases h2
        obtain ⟨a, vs, e, hq, hl, st⟩ := w0.scr_keep (Z' := Z') (H' := H')
        refine ⟨a, e, .inl ⟨vs, hq, ?_⟩⟩
        have wk := walk_list (K := X.K) (a := a) (xs := vs)
        rw [← hl] at wk
        exact q _ H' Z' Fs' _ _ rel' f' wk fun B Z2 H2 k hz zz => (stay_list st) B Z2 H2 k (fun _ h => (by cases h)) hz zz
      · cases h2
  · cases hf
def compL2 (vs vs1 : List Nat) (g : D → Env → Option Env) (ft : M Bool) (fi1 : M (List D)) (g1 : D → Env → Option Env) (ft1 : M Bool) (fe : M D) : List D → Env → List D → Option (List D × Env)
  | [], ρ, acc => some (acc, ρ)
  | d :: ds, ρ, acc => (g d (wipeE ρ vs)).bind fun ρ1 => (ft ρ1).bind fun p => if p.1 = true then (fi1 p.2).bind fun q => (compL vs1 g1 ft1 fe q.1 q.2 acc).bind fun r => compL2 vs vs1 g ft fi1 g1 ft1 fe ds (wipeE r.2 vs1) r.1
    else compL2 vs vs1 g ft fi1 g1 ft1 fe ds p.2 acc
def fComp2 (vs vs1 : List Nat) (fi : M (List D)) (g : D → Env → Option Env) (ft : M Bool) (fi1 : M (List D)) (g1 : D → Env → Option Env) (ft1 : M Bool) (fe : M D) : M D := fun ρ => (fi ρ).bind fun p => if ownOk p.2 vs = true then (compL2 vs vs1 g ft fi1 g1 ft1 fe p.1 p.2 []).bind fun q => some (.lst true q.1, backE p.2 q.2 vs) else none
theorem BK.nzD {K : PySem.W.Frag} {Tl : List Nat} {Z1 Z : Addr → Prop} {ρ1 ρ : Env} {Fs1 Fs : Ft} {H1 H : Hp} {DD : Addr} {acc : List D} {τ : L2.St} (b : BK K Tl Z1 ρ1 Fs1 H1 DD acc Z ρ Fs H τ) : ¬ Z DD := by
  obtain ⟨F, w, _⟩ := b.val
  have h2 := (w.exc rfl).2
  have r := w.r
  cases r with
  | own _ _ => exact h2 DD List.mem_cons_self
def Kp (Z4 : Addr → Prop) (H4 : Hp) (Z : Addr → Prop) (H : Hp) : Prop := ∃ B : Addr → Prop, Keep B H4 H ∧ (∀ a, Z4 a → ¬ B a) ∧ ∀ a, Z4 a → Z a
theorem Kp.step {K : PySem.W.Frag} {T' : List Nat} {Z4 Za Zb : Addr → Prop} {ρa ρb : Env} {Fsa Fsb : Ft} {H4 Ha Hb : Hp} {τ : L2.St} (k : Kp Z4 H4 Za Ha) (rel : Rel K Za ρa τ Ha Fsa) (f : Frm T' Za ρa Fsa Ha Zb ρb Fsb Hb) : Kp Z4 H4 Zb Hb := by
  obtain ⟨B, k1, k2, k3⟩ := k
  exact ⟨fun a => B a ∨ ∃ j ∈ T', a ∈ Fsa j, k1.trans f.keep (fun _ h => .inl h) fun a h => .inl (.inr h), fun a z h => h.elim (k2 a z) fun ⟨j, _, hj⟩ => rel.nz j a hj (k3 a z), fun a z => f.zz a (k3 a z)⟩
theorem Kp.wr {Z4 Z : Addr → Prop} {H4 H : Hp} {DD : Addr} {u o : HO} (k : Kp Z4 H4 Z H) (hD : H DD = some u) (hu : Mut (some u)) (hz : ¬ Z DD) : Kp Z4 H4 Z (upd H DD o) := by
  obtain ⟨B, k1, k2, k3⟩ := k
  exact ⟨fun a => B a ∨ a = DD, k1.trans (Keep.wr hD hu) (fun _ h => .inl h) fun a h => .inl (.inr h), fun a z h => h.elim (k2 a z) fun e => hz (by rw [← e]; exact k3 a z), k3⟩
/-- an inner walk of a comprehension, with the outer bookkeeping kept -/
theorem tv_inner {K : PySem.W.Frag} {Tl : List Nat} {Z1 : Addr → Prop} {ρ1 : Env} {Fs1 : Ft} {H1 : Hp} {DD : Addr} (hDD : H1 DD = none) {vs1 : List Nat} {items1 : List D} {J1 : It} {G1 : Hp → Prop} {Y1 : Nat → Hp → V → Hp → Prop} {σ2 : L2.St} {H4 : Hp} {Z4 : Addr → Prop} {ρ4 : Env} {Fs4 : Ft} {acc racc : List D} {ρr : Env}
    (hW1 : Wg1.all (fun i => vs1.contains i) = true) (inT : ∀ j, j ∈ vs1 ∨ j ∈ Tg1 ∨ j ∈ Tt1 ∨ j ∈ Te → j ∈ Tl) (b : BK K Tl Z1 ρ1 Fs1 H1 DD acc Z4 ρ4 Fs4 H4 σ2) (wk : Walk J1 items1.length G1 Y1) (stay : StayR K Z4 H4 G1 Y1 items1)
    (hc : compL vs1 g1 ft1 fe items1 ρ4 acc = some (racc, ρr)) {Nx : Hp → Prop} (fin : ∀ Z5 Fs5 H5, BK K Tl Z1 ρ1 Fs1 H1 DD racc Z5 (wipeE ρr vs1) Fs5 H5 (wipe σ2 vs1) → Nx H5) :
    ∃ W1 : Nat → Nat → Hp → Prop, (∃ m, W1 0 m H4) ∧ ∀ j k H, W1 j k H →
      (J1.stop j H ∧ Nx H) ∨ (J1.go j H ∧ ∃ Nx1 : Hp → Prop, (∀ H', Nx1 H' → ∃ k', k' < k ∧ W1 (j + 1) k' H') ∧ ∀ x H', J1.yld j H x H' → tVG K Wg1 Tg1 g1 x (wipe σ2 vs1) H' fun σ3 H5 => wipe σ3 vs1 = wipe σ2 vs1 ∧ tVT K Tt1 ft1 σ3 H5 fun b H6 =>
        if b = true then tV K Te [] true fe σ3 H6 fun y H7 => ∃ acc, H7 DD = some (.lst acc) ∧ acc.length < sizeLine ∧ Nx1 (upd H7 DD (.lst (acc ++ [y]))) else Nx1 H6) := by
  have inW : ∀ j ∈ Wg1, j ∈ vs1 := fun j hj => by simpa using List.all_eq_true.mp hW1 j hj
  let Pv : Nat → Hp → Prop := fun j Hj => ∃ Zj ρj Fsj acc', BK K Tl Z1 ρ1 Fs1 H1 DD acc' Zj (wipeE ρj vs1) Fsj Hj (wipe σ2 vs1) ∧ Kp Z4 H4 Zj Hj ∧ compL vs1 g1 ft1 fe (items1.drop j) ρj acc' = some (racc, ρr)
  refine ⟨fun j m H => m = items1.length - j ∧ j ≤ items1.length ∧ Pv j H, ⟨items1.length, by simp, Nat.zero_le _, Z4, ρ4, dropF Fs4 vs1, acc, b.wipe vs1 (wipe_length _ _) (fun i hi => wipe_out' hi) fun j hj => inT j (.inl hj), ⟨fun _ => False, Keep.refl _ _, fun _ _ h => h, fun _ h => h⟩, by rw [List.drop_zero]; exact hc⟩, ?_⟩
  rintro j m H ⟨rfl, hj, Zj, ρj, Fsj, acc', bj, ⟨B, kB, hB, zB⟩, hcj⟩
  obtain ⟨hG, hS⟩ := stay B Zj H kB hB zB
  by_cases hlt : j < items1.length
  · refine .inr ⟨wk.goes j H hlt hG, Pv (j + 1), fun H' p' => ⟨items1.length - (j + 1), by omega, rfl, hlt, p'⟩, fun x H' y => ?_⟩
    have hd : items1[j]? = some items1[j] := List.getElem?_eq_getElem hlt
    obtain ⟨k, rv⟩ := hS j x H' _ (wk.yields j H x H' hlt hG y) hd
    rw [List.drop_eq_getElem_cons hlt] at hcj
    obtain ⟨ρg, hg1, hcj⟩ := Option.bind_eq_some_iff.mp hcj
    obtain ⟨⟨bt, ρt⟩, ht1, hcj⟩ := Option.bind_eq_some_iff.mp hcj
    have b1 := bj.keep0 k
    have kp1 : Kp Z4 H4 Zj H' := ⟨B, kB.trans k (fun _ h => h) fun _ h => h.elim, hB, zB⟩
    refine ⟨Zj, wipeE ρj vs1, Fsj, items1[j], ρg, b1.rel, rv, hg1, fun σ3 H5 Z5 Fs5 fn5 => ⟨?_, ?_⟩⟩
    · refine wipe_eq (by rw [fn5.sl, wipe_length]) fun i hi => ?_
      rw [fn5.sg i fun z => hi (inW i z), wipe_out' hi]
    · have b2 := b1.step fn5.rel fn5.frm fun i hi => inT i (.inr (.inl hi))
      have kp2 := kp1.step b1.rel fn5.frm
      have outs2 : ∀ i, i ∉ vs1 → (wipe σ2 vs1)[i]? = σ3[i]? := fun i hi => (fn5.sg i fun z => hi (inW i z)).symm
      refine ⟨Z5, ρg, Fs5, bt, ρt, fn5.rel, ht1, fun H6 Z6 Fs6 rel6 f6 => ?_⟩
      have b3 := b2.step rel6 f6 fun i hi => inT i (.inr (.inr (.inl hi)))
      have kp3 := kp2.step fn5.rel f6
      cases bt with
      | false =>
        refine iteF ?_
        rw [if_neg Bool.false_ne_true] at hcj
        exact ⟨Z6, ρt, _, acc', b3.wipe vs1 (by rw [fn5.sl]) outs2 fun i hi => inT i (.inl hi), kp3, hcj⟩
      | true =>
        refine iteT ?_
        rw [if_pos rfl] at hcj
        obtain ⟨⟨de, ρe⟩, he1, hcj⟩ := Option.bind_eq_some_iff.mp hcj
        split at hcj
        · rename_i hz
          refine ⟨Z6, ρt, Fs6, de, ρe, rel6, he1, fun v7 H7 Z7 Fs7 F7 rel7 f7 w7 c7 => ?_⟩
          obtain ⟨vacc, hv1, hv2, b4⟩ := b3.app rel7 f7 (fun i hi => inT i (.inr (.inr (.inr hi)))) w7 c7 hDD
          have kp4 := (kp3.step rel6 f7).wr (o := .lst (vacc ++ [v7])) hv1 trivial b4.nzD
          exact ⟨vacc, hv1, by rw [hv2]; exact sz_lt hz, Z7, ρe, _, _, b4.wipe vs1 (by rw [fn5.sl]) outs2 fun i hi => inT i (.inl hi), kp4, hcj⟩
        · cases hcj
  · have e : j = items1.length := by omega
    subst e
    rw [List.drop_length] at hcj
    cases hcj
    exact .inl ⟨wk.stops H hG, fin Zj Fsj H bj⟩
theorem tv_comp2 (vs vs1 : List Nat) (hv1 : vs1.all (fun i => vs.contains i) = true) (hW : Wg.all (fun i => vs.contains i) = true) (hW1 : Wg1.all (fun i => vs1.contains i) = true) (ho : O.all (fun i => !(vs ++ (Tg ++ (Tt ++ (T1 ++ (Tg1 ++ (Tt1 ++ Te)))))).contains i) = true) {σ : L2.St} {H : Hp} {Q : VK}
    (h : tV X.K (T ++ ((vs ++ (Tg ++ (Tt ++ (T1 ++ (Tg1 ++ (Tt1 ++ Te)))))) ++ vs)) [] true (fComp2 vs vs1 fi g ft fi1 g1 ft1 fe) σ H Q) :
    tLc2 (tVI X.K T O fi) (tVG X.K Wg Tg g) (tVT X.K Tt ft) (tVIr X.K T1 fi1) (tVG X.K Wg1 Tg1 g1) (tVT X.K Tt1 ft1) (tV X.K Te [] true fe) vs vs1 σ H Q := by
  obtain ⟨Z, ρ, Fs, d, ρ', rel, hf, q⟩ := h
  unfold fComp2 at hf
  obtain ⟨⟨items, ρ1⟩, h1, hf⟩ := Option.bind_eq_some_iff.mp hf
  split at hf
  · rename_i hok
    obtain ⟨⟨res, ρ2⟩, h2, hf⟩ := Option.bind_eq_some_iff.mp hf
    cases hf
    refine ⟨Z, ρ, Fs, items, ρ1, rel, h1, fun J H1 Z1 Fs1 A G Y rel1 f1 wk hA stay DD hDD => ?_⟩
    have inTl : ∀ j, j ∈ vs ∨ j ∈ Tg ∨ j ∈ Tt ∨ j ∈ T1 ∨ j ∈ Tg1 ∨ j ∈ Tt1 ∨ j ∈ Te → j ∈ vs ++ (Tg ++ (Tt ++ (T1 ++ (Tg1 ++ (Tt1 ++ Te))))) := fun j h => by
      simp only [List.mem_append]
      exact h
    generalize hTl : vs ++ (Tg ++ (Tt ++ (T1 ++ (Tg1 ++ (Tt1 ++ Te))))) = Tl at q ho inTl
    have far : ∀ a ∈ A, ¬ ∃ j ∈ Tl, a ∈ Fs1 j := fun a ha ⟨j, hj, hf⟩ => by
      have z := List.all_eq_true.mp ho j (hA j a ha hf)
      simp only [Bool.not_eq_true', List.contains_eq_mem, decide_eq_false_iff_not] at z
      exact z hj
    have znot : ∀ a, Z1 a → ¬ ∃ j ∈ Tl, a ∈ Fs1 j := fun a z ⟨j, _, ha⟩ => rel1.nz j a ha z
    have k0 : Keep M0 H1 (upd H1 DD (.lst [])) := Keep.new hDD
    have inW : ∀ j ∈ Wg, j ∈ vs := fun j hj => by simpa using List.all_eq_true.mp hW j hj
    have inV : ∀ j ∈ vs1, j ∈ vs := fun j hj => by simpa using List.all_eq_true.mp hv1 j hj
    have b0 : BK X.K Tl Z1 ρ1 Fs1 H1 DD [] Z1 (wipeE ρ1 vs) (dropF Fs1 vs) (upd H1 DD (.lst [])) (wipe σ vs) := by
      have b : BK X.K Tl Z1 ρ1 Fs1 H1 DD [] Z1 ρ1 Fs1 (upd H1 DD (.lst [])) σ := by
        refine ⟨rel1.keep0 k0, Frm.pureT _ k0, [DD], ⟨.own upd_same .nil, fun j a h1 h2 => ?_, fun _ => ⟨by simp, fun a ha z => ?_⟩⟩, fun _ a ha => .inr ?_⟩
        · have e : a = DD := by simpa using h1
          exact absurd hDD (by rw [← e]; exact rel1.ft j a h2)
        · have e : a = DD := by simpa using ha
          exact rel1.zt a z (by rw [e]; exact hDD)
        · have e : a = DD := by simpa using ha
          rw [e]; exact hDD
      exact b.wipe vs (wipe_length _ _) (fun i hi => wipe_out' hi) fun j hj => inTl j (.inl hj)
    let Pv : Nat → Hp → Prop := fun i Hi => ∃ Zi ρi Fsi acc, BK X.K Tl Z1 ρ1 Fs1 H1 DD acc Zi (wipeE ρi vs) Fsi Hi (wipe σ vs) ∧ ρi.length = ρ1.length ∧ compL2 vs vs1 g ft fi1 g1 ft1 fe (items.drop i) ρi acc = some (res, ρ2)
    refine ⟨fun i m H => m = items.length - i ∧ i ≤ items.length ∧ Pv i H, ⟨items.length, by simp, Nat.zero_le _, Z1, ρ1, _, [], b0, rfl, by rw [List.drop_zero]; exact h2⟩, ?_⟩
    rintro i m Hi ⟨rfl, hi, Zi, ρi, Fsi, acc, b, hl, hc⟩
    obtain ⟨hG, hS⟩ := stay _ Zi Hi b.frm.keep far znot b.frm.zz
    by_cases hlt : i < items.length
    · refine .inr ⟨wk.goes i Hi hlt hG, Pv (i + 1), fun H' p' => ⟨items.length - (i + 1), by omega, rfl, hlt, p'⟩, fun v H' y => ?_⟩
      have hd : items[i]? = some items[i] := List.getElem?_eq_getElem hlt
      obtain ⟨k, rv⟩ := hS i v H' _ (wk.yields i Hi v H' hlt hG y) hd
      rw [List.drop_eq_getElem_cons hlt] at hc
      obtain ⟨ρg, hg1, hc⟩ := Option.bind_eq_some_iff.mp hc
      obtain ⟨⟨bt, ρt⟩, ht1, hc⟩ := Option.bind_eq_some_iff.mp hc
      have b1 := b.keep0 k
      refine ⟨Zi, wipeE ρi vs, Fsi, items[i], ρg, b1.rel, rv, hg1, fun σ2 H2 Z2 Fs2 fn2 => ⟨?_, ?_⟩⟩
      · refine wipe_eq (by rw [fn2.sl, wipe_length]) fun j hj => ?_
        rw [fn2.sg j fun z => hj (inW j z), wipe_out' hj]
      · have b2 := b1.step fn2.rel fn2.frm fun j hj => inTl j (.inr (.inl hj))
        have outs2 : ∀ j, j ∉ vs → (wipe σ vs)[j]? = σ2[j]? := fun j hj => (fn2.sg j fun z => hj (inW j z)).symm
        refine ⟨Z2, ρg, Fs2, bt, ρt, fn2.rel, ht1, fun H3 Z3 Fs3 rel3 f3 => ?_⟩
        have b3 := b2.step rel3 f3 fun j hj => inTl j (.inr (.inr (.inl hj)))
        cases bt with
        | false =>
          refine iteF ?_
          rw [if_neg Bool.false_ne_true] at hc
          exact ⟨Z3, ρt, _, acc, b3.wipe vs (by rw [fn2.sl]) outs2 fun j hj => inTl j (.inl hj), b3.frm.len, hc⟩
        | true =>
          refine iteT ?_
          rw [if_pos rfl] at hc
          obtain ⟨⟨items1, ρq⟩, hi1, hc⟩ := Option.bind_eq_some_iff.mp hc
          obtain ⟨⟨racc, ρr⟩, hr1, hc⟩ := Option.bind_eq_some_iff.mp hc
          refine ⟨Z3, ρt, Fs3, items1, ρq, rel3, hi1, fun J1 H4 Z4 Fs4 G1 Y1 rel4 f4 wk1 stay1 => ?_⟩
          have b4 := b3.step rel4 f4 fun j hj => inTl j (.inr (.inr (.inr (.inl hj))))
          refine tv_inner (Wg1 := Wg1) (Tg1 := Tg1) (Tt1 := Tt1) (Te := Te) (ft1 := ft1) (g1 := g1) (fe := fe) hDD hW1 (fun j hj => inTl j ?_) b4 wk1 stay1 hr1 fun Z5 Fs5 H5 b5 => ?_
          · rcases hj with hj | hj | hj | hj
            · exact .inl (inV j hj)
            · exact .inr (.inr (.inr (.inr (.inl hj))))
            · exact .inr (.inr (.inr (.inr (.inr (.inl hj)))))
            · exact .inr (.inr (.inr (.inr (.inr (.inr hj)))))
          · refine ⟨Z5, wipeE ρr vs1, _, racc, b5.wipe vs (by rw [wipe_length σ2, fn2.sl]) (fun j hj => ?_) fun j hj => inTl j (.inl hj), b5.frm.len, hc⟩
            rw [wipe_out' (fun z => hj (inV j z))]
            exact outs2 j hj
    · have e : i = items.length := by omega
      subst e
      rw [List.drop_length] at hc
      cases hc
      refine .inl ⟨wk.stops Hi hG, ?_⟩
      obtain ⟨F, w, c⟩ := b.val
      have rb := Rel.back rel1 hok b.rel b.frm
      have fb := Frm.back (vs := vs) b.frm
      rw [backE_wipe hl] at rb fb
      exact q (.ref DD) Hi Zi _ F rb (f1.trans fb) w.wipe (Cf.late f1 (c.mono fun j hj => List.mem_append_left _ hj))
  · cases hf
theorem pev_lc2 {scope : Scope} {own : List (Str × Nat)} (vs vs1 : List Nat) (hc : X.calm = true) (hN : X.N.Nodup) (hi : PIV X T O tg iter fi) (ok : BlkOk X.N X.env.scope scope own)
    (hg : ∀ (s : Shared) (H : Hp) (C : Addr) (cl : List (Str × Addr)) (fp : List Addr), PGV (X.blk s H scope (compEnvC scope cl C X.env) fp) Wg Tg tg g) (ht : ∀ (s : Shared) (H : Hp) (C : Addr) (cl : List (Str × Addr)) (fp : List Addr), PTsV (X.blk s H scope (compEnvC scope cl C X.env) fp) Tt ifs ft)
    (hi1 : ∀ (s : Shared) (H : Hp) (C : Addr) (cl : List (Str × Addr)) (fp : List Addr), PIVr (X.blk s H scope (compEnvC scope cl C X.env) fp) T1 tg1 iter1 fi1)
    (hg1 : ∀ (s : Shared) (H : Hp) (C : Addr) (cl : List (Str × Addr)) (fp : List Addr), PGV (X.blk s H scope (compEnvC scope cl C X.env) fp) Wg1 Tg1 tg1 g1) (ht1 : ∀ (s : Shared) (H : Hp) (C : Addr) (cl : List (Str × Addr)) (fp : List Addr), PTsV (X.blk s H scope (compEnvC scope cl C X.env) fp) Tt1 ifs1 ft1)
    (he : ∀ (s : Shared) (H : Hp) (C : Addr) (cl : List (Str × Addr)) (fp : List Addr), PEV (X.blk s H scope (compEnvC scope cl C X.env) fp) Te [] true elt fe) (hvs : own.map (·.2) = vs := by rfl) (hv1 : vs1.all (fun i => vs.contains i) = true := by rfl) (hW : Wg.all (fun i => vs.contains i) = true := by rfl) (hW1 : Wg1.all (fun i => vs1.contains i) = true := by rfl)
    (ho : O.all (fun i => !(vs ++ (Tg ++ (Tt ++ (T1 ++ (Tg1 ++ (Tt1 ++ Te)))))).contains i) = true := by rfl) (hs : ∀ x, foldedSetIterable iter X.env x = pure x := by intro _; rfl) (hs1 : ∀ env x, foldedSetIterable iter1 env x = pure x := by intro _ _; rfl) :
    PEV X (T ++ ((vs ++ (Tg ++ (Tt ++ (T1 ++ (Tg1 ++ (Tt1 ++ Te)))))) ++ vs)) [] true (.ListComp elt [⟨tg, iter, ifs, 0⟩, ⟨tg1, iter1, ifs1, 0⟩] scope pos) (fComp2 vs vs1 fi g ft fi1 g1 ft1 fe) := by
  subst hvs
  have hv : ∀ i ∈ vs1, i ∈ own.map (·.2) := fun i hi => by simpa using List.all_eq_true.mp hv1 i hi
  exact PE.imp (pe_lc2 hc hN hi ok hv hg ht hi1 hg1 ht1 he hs hs1) fun σ H Q h => tv_comp2 _ _ hv1 hW hW1 ho h
end
end Vl

namespace Vl
open PySem PySem.Spec PyProof.Rows L2
/-! ### math.gcd, math.lcm -/
def rLcm : List V → Hp → VK → Prop := fun vs H Q => ∃ a b : Int, vs = [.int a, .int b] ∧ a.natAbs < 2 ^ 60 ∧ b.natAbs < 2 ^ 60 ∧ Q (.int ((Nat.lcm a.natAbs b.natAbs : Nat) : Int)) H
theorem log2_lt_of {n k : Nat} (h : n < 2 ^ k) (hk : 0 < k) : n.log2 < k := by
  by_cases h0 : n = 0
  · subst h0
    show Nat.log2 0 < k
    rw [show Nat.log2 0 = 0 by rfl]
    exact hk
  · exact (Nat.log2_lt h0).mpr h
theorem cr_lcm {X : Cx} : CallR X (.builtin "math.lcm") rLcm := fun pins s σ H vs us Q I r h => by
  obtain ⟨a, b, rfl, ha, hb, q⟩ := h
  obtain ⟨t, u, rfl⟩ := Vals.int2 r
  have e : (Nat.lcm 1 a.natAbs).lcm b.natAbs = Nat.lcm a.natAbs b.natAbs := by rw [Nat.lcm_one_left]
  refine PySem.W.mg_lcm_v (c := ((Nat.lcm a.natAbs b.natAbs : Nat) : Int)) (by omega) (by omega) (by rw [e]) ?_ ⟨.int _, H, I.tok _, ⟨_, rfl⟩, q⟩
  rw [Int.natAbs_natCast]
  have h1 : Nat.lcm a.natAbs b.natAbs ≤ a.natAbs * b.natAbs := Nat.div_le_self _ _
  have h2 : a.natAbs * b.natAbs ≤ 2 ^ 60 * 2 ^ 60 := Nat.mul_le_mul (Nat.le_of_lt ha) (Nat.le_of_lt hb)
  have h3 : Nat.lcm a.natAbs b.natAbs < 2 ^ 121 := Nat.lt_of_le_of_lt (Nat.le_trans h1 h2) (by decide)
  exact Nat.lt_trans (log2_lt_of h3 (by decide)) (by decide)
def gLcm (ds : List D) : Option D := match ds with
  | [.int a, .int b] => if (decide (a.natAbs < 2 ^ 60) && decide (b.natAbs < 2 ^ 60)) = true then some (.int ((Nat.lcm a.natAbs b.natAbs : Nat) : Int)) else none
  | _ => none
def gGcd (ds : List D) : Option D := match ds with
  | [.int a, .int b] => some (.int ((Nat.gcd a.natAbs b.natAbs : Nat) : Int))
  | _ => none
theorem cs_lcm {K : PySem.W.Frag} : ClS K rLcm gLcm := ClS.here fun Z H ds vs F1 d Q rs hg q => by
  unfold gLcm at hg
  split at hg
  · rename_i a b
    split at hg
    · rename_i h
      cases hg
      rw [Bool.and_eq_true] at h
      exact ⟨a, b, rs.ints2, of_decide_eq_true h.1, of_decide_eq_true h.2, q _ (.int _)⟩
    · cases hg
  · cases hg
theorem cs_gcd {K : PySem.W.Frag} : ClS K rGcd gGcd := ClS.here fun Z H ds vs F1 d Q rs hg q => by
  unfold gGcd at hg
  split at hg
  · rename_i a b
    cases hg
    exact ⟨a, b, rs.ints2, q _ (.int _)⟩
  · cases hg
theorem pev_callF {X : Cx} {T O : List Nat} {x : Bool} {e : Expr} {es : List Expr} {fr : M (List D)} {pos p : Pos} {id : String} {y : Str} {rc : List V → Hp → VK → Prop} {gc : List D → Option D} (hc : CallR X (.builtin id) rc) (hs : ClS X.K rc gc) (hg : Gl X y) (hm : X.mg y = some (.builtin id)) (ha : PAV X T O x (e :: es) fr)
    (hdb : (y == ("__debug__" : Str)) = false := by decide) (he : starEach (e :: es) X.env = (false, eval e X.env) :: starEach es X.env := by rfl) (hpl : (backTo pos (starEach es X.env)).any (·.1) = false := by rfl) :
    PEV X T [] true (.Call (.Name y p) (e :: es) [] pos) (fCl gc fr) := PE.imp (pe_callBfun hc hg hm ha hdb he hpl) fun _ _ _ h => tv_cl hs h
end Vl

namespace Vl
open PySem PySem.Spec PyProof.Rows L2
/-! ### a law's own head -/
theorem rs_ints {K : PySem.W.Frag} {Z : Addr → Prop} {H : Hp} : ∀ ns : List Int, Rs K Z H (ns.map D.int) (ns.map V.int) []
  | [] => .nil
  | n :: r => .cons0 (.int n) (rs_ints r)
theorem law_sp {K : PySem.W.Frag} {F : FD} (h : ∀ ns : List Int, ns.length ≤ 63 → (∀ z ∈ ns, Builtin.Int.intBits z ≤ 1048576) → F [.scr (ns.map .int)] = some (.bl true, [])) (H : Hp) (a : Addr) (ns : List Int) (hl : ns.length ≤ 63) (hb : ∀ z ∈ ns, Builtin.Int.intBits z ≤ 1048576)
    (ho : Only H) (hs : SqL K H a (ns.map V.int)) : spV K 1 0 F [.ref a] H (fun v _ => v = .bl true) fun _ _ _ => False := by
  have hf : SqF K H a (ns.map V.int) := by
    rcases hs with (hs | hs) | hs
    · rcases ho a with e | ⟨o, xs, e⟩ <;> (rw [e] at hs; cases hs)
    · exact .inl hs
    · exact .inr hs
  refine ⟨fun _ => False, [.scr (ns.map .int)], fun _ => [], .bl true, [], ⟨fun i d e => ?_, fun _ => List.nodup_nil, fun _ _ _ h => (by cases h), fun _ _ h => (by cases h), fun _ h => h.elim, fun _ _ h => (by cases h), rfl⟩, fun _ _ => rfl, rfl, Nat.zero_le _, h ns hl hb, rfl, fun v H' Z' Gs' F' rel f w c => w.r.bl_inv⟩
  cases i with
  | zero => cases e; exact ⟨_, rfl, .knw hf (rs_ints ns)⟩
  | succ i => cases i <;> cases e
theorem gds_nil {K : PySem.W.Frag} : ∃ vs, Vals vs [] ∧ ∀ Z H, Rs K Z H [] vs [] := ⟨[], .nil, fun _ _ => .nil⟩
theorem gds_cons {K : PySem.W.Frag} {u : Value} {us : List Value} {d : D} {ds : List D} (h : GD K u d) (hr : ∃ vs, Vals vs us ∧ ∀ Z H, Rs K Z H ds vs []) : ∃ vs, Vals vs (u :: us) ∧ ∀ Z H, Rs K Z H (d :: ds) vs [] := by
  obtain ⟨v, h1, h2⟩ := h
  obtain ⟨vs, h3, h4⟩ := hr
  exact ⟨v :: vs, .cons h1 h3, fun Z H => .cons0 (h2 Z H) (h4 Z H)⟩
theorem GD.int {K : PySem.W.Frag} {i : Int} {t : Tok} : GD K (.int i t) (.int i) := ⟨.int i, ⟨t, rfl⟩, fun _ _ => .int i⟩
theorem GD.str {K : PySem.W.Frag} {i : Str} {t : Tok} : GD K (.str i t) (.str i) := ⟨.str i, ⟨t, rfl⟩, fun _ _ => .str i⟩
end Vl

namespace Vl
open PySem PySem.Spec PyProof.Rows L2 HT
/-! ### xs[::-1] -/
theorem fm_some {α β : Type} {f : α → Option β} {g : α → β} : ∀ l : List α, (∀ k ∈ l, f k = some (g k)) → l.filterMap f = l.map g
  | [], _ => rfl
  | a :: r, h => by
    rw [List.filterMap_cons, h a List.mem_cons_self, List.map_cons, fm_some r fun k hk => h k (List.mem_cons_of_mem _ hk)]
theorem pick_back (xs : Array Value) : ((List.range xs.size).filterMap fun (m : Nat) => xs[(((xs.size : Nat) : Int) - 1 + (m : Int) * (-1)).toNat]?) = xs.toList.reverse := by
  rw [fm_some (g := fun m => (xs[xs.size - 1 - m]?).getD .none) _ fun k hk => ?_]
  · refine List.ext_getElem (by simp) fun i h1 h2 => ?_
    have hi : i < xs.size := by simpa using h1
    rw [List.getElem_map, List.getElem_range, List.getElem_reverse]
    have e : xs[xs.size - 1 - i]? = some xs[xs.size - 1 - i] := Array.getElem?_eq_getElem (by omega)
    rw [e]
    simp
  · have hk := List.mem_range.mp hk
    have e : (((xs.size : Nat) : Int) - 1 + (k : Int) * (-1)).toNat = xs.size - 1 - k := by omega
    rw [e, Array.getElem?_eq_getElem (by omega)]
    rfl
section
variable {prog : Program} {w : World} {A : Around} {E : Value → Shared → Prop} {s : Shared}
theorem sliceApplied_back {sl : Addr} {vl vu vs : Value} {n : Nat} {Q : Int × Int × Nat → Shared → Prop} (hs : s.heap.IsSliceOf sl vl vu vs) (pl : IsPart vl none) (pu : IsPart vu none) (ps : IsPart vs (some (-1)))
    (h : Q (((n : Nat) : Int) - 1, -1, n) s) : wpAny (model prog w) A (Builtin.Slice.sliceApplied (.ref sl) (pure (n : Int))) Q E s := by
  obtain ⟨os, hos, hcs, hds⟩ := id hs
  unfold Builtin.Slice.sliceApplied Builtin.Slice.sliceFields
  refine wpAny_bind (wpAny_bind (wpAny_field hos hds (x := vl) rfl (wpAny_bind (wpAny_field hos hds (x := vu) rfl (wpAny_bind (wpAny_field hos hds (x := vs) rfl (wpAny_pure ?_)))))))
  refine wpAny_bind (slicePart_ ps ?_)
  show wpAny _ _ (if ((-1 : Int) == 0) = true then _ else _) _ _ s
  rw [if_neg (by decide)]
  refine wpAny_bind (slicePart_ pl (wpAny_bind (slicePart_ pu (wpAny_bind (wpAny_pure ?_)))))
  show wpAny _ _ (pure (((n : Nat) : Int) - 1, (-1 : Int), Builtin.Slice.slicePlaces (((n : Nat) : Int) - 1) (-1) (-1))) _ _ s
  have e : Builtin.Slice.slicePlaces (((n : Nat) : Int) - 1) (-1) (-1) = n := by
    unfold Builtin.Slice.slicePlaces
    rw [if_neg (by decide)]
    by_cases hn : n = 0
    · subst hn; rfl
    · rw [if_pos (by omega)]
      have : (((n : Nat) : Int) - 1 - -1 - 1) / (- -1) = ((n : Nat) : Int) - 1 := by
        rw [show (- -1 : Int) = 1 by decide, Int.ediv_one]; omega
      rw [this]
      omega
  rw [e]
  exact wpAny_pure h
theorem getItem_tuple_back {t sl : Addr} {items : Array Value} {vl vu vs : Value} {Q : Value → Shared → Prop} (ht : IsTup s.heap t items) (hs : s.heap.IsSliceOf sl vl vu vs) (pl : IsPart vl none) (pu : IsPart vu none) (ps : IsPart vs (some (-1)))
    (h : Q (.ref s.heap.objs.size) { s with heap := s.heap.push { cls := .type "tuple", data := .seq items.toList.reverse.toArray } })
    (hsz : items.size ≤ sizeLine) : wpAny (model prog w) A (getItem (.ref t) (.ref sl)) Q E s := by
  have htake : sizeOk (.seq items.toList.reverse.toArray) := by
    show items.toList.reverse.toArray.size ≤ sizeLine
    rw [List.size_toArray, List.length_reverse, Array.length_toList]
    exact hsz
  obtain ⟨os, hos, hcs, hds⟩ := id hs
  have hTs : s.TypeIs (.ref sl) "slice" := ⟨os, hos, hcs⟩
  unfold getItem
  try with_reducible refine wpAny_holding ?_
  first | refine wpAny_bind (wpAny_pure ?_) | skip
  refine wpAny_bind (wpAny_sequenceKey ht.typeIs (by decide) ?_)
  refine wpAny_bind (wpAny_callSpecial?_slot (name := Str.ofString "__getitem__") ht.typeIs PyProof.Rows.slot_tuple_getitem
    (wpAny_call_entry PyProof.Rows.slot_tuple_getitem ht.typeIs entry_tuple_getitem ?_ (args_tuple_getitem _ _)))
  show wpAny _ _ (Builtin.Tuple.tupleItemsOf (.ref t) >>= _) _ _ s
  refine wpAny_bind (tupleItemsOf_ ht ?_)
  refine wpAny_bind (wpAny_typeOf hTs ?_)
  rw [if_pos (by decide)]
  refine wpAny_bind (sliceApplied_back hs pl pu ps ?_)
  show wpAny _ _ (if ((((items.size : Nat) : Int) - 1 == 0 && (-1 : Int) == 1 && items.size == items.size)) = true then _ else _) _ _ s
  rw [if_neg (by simp), pick_back]
  first
    | exact wpAny_bind (m := Builtin.Tuple.tupleExact _) (wpAny_newObj_type (wpAny_pure ⟨_, rfl, wpAny_pure h⟩) htake)
    | exact wpAny_bind (m := Builtin.Tuple.tupleExact _) (wpAny_newObj_type (wpAny_bind (wpAny_pure (wpAny_pure ⟨_, rfl, wpAny_pure h⟩))) htake)
    | exact wpAny_bind (wpAny_bind (m := Builtin.Tuple.tupleExact _) (wpAny_newObj_type (wpAny_pure (wpAny_pure ⟨_, rfl, wpAny_pure h⟩)) htake))
    | exact wpAny_bind (wpAny_bind (m := Builtin.Tuple.tupleExact _) (wpAny_newObj_type (wpAny_pure ⟨_, rfl, wpAny_pure h⟩) htake))
end
section
variable {X : Cx} {T O : List Nat} {x : Bool} {e : Expr} {f : M D} {p1 p2 p3 pos : Pos} {k : Nat}
/-- a new list of a list, a new tuple of a tuple -/
def tRevS (K : PySem.W.Frag) (te : TE) : TE := fun σ H Q => te σ H fun v H1 => ∃ (a : Addr) (xs : List V), v = .ref a ∧ ((SqL K H1 a xs ∧ ∀ q, H1 q = none → Q (.ref q) (upd H1 q (.lst xs.reverse))) ∨ (SqT K H1 a xs ∧ ∀ q, H1 q = none → Q (.ref q) (upd H1 q (.tup xs.reverse))))
theorem pe_revS {te : TE} (he : PE X e te) : PE X (.Subscript e (.Slice none none (some (.UnaryOp .USub (.Constant (.int 1) k p1) p2)) p3) pos) (tRevS X.K te) := by
  refine ⟨fun pins s σ H Q I h => ?_⟩
  refine Subscript_ (thn (he.run pins s σ H _ I h) fun v s1 ⟨w0, H1, I1, r1, q1⟩ => ?_)
  obtain ⟨a, xs, ew, hx⟩ := q1
  subst ew
  obtain rfl : v = Value.ref a := r1
  have hst : PO X (some (.UnaryOp .USub (.Constant (.int 1) k p1) p2)) (tPart (tUn (rU fun i => .int (-i)) (tC (.int 1)))) := po_some (pe_un un_neg pe_int)
  refine wpAny_Slice (thn (po_none.run pins s1 σ H1 (fun o H2 => o = none ∧ H2 = H1) I1 ⟨rfl, rfl⟩) fun vl s2 ⟨l, H2, I2, pl, el, e2⟩ => ?_)
  subst el e2
  refine thn (po_none.run pins s2 σ H2 (fun o H3 => o = none ∧ H3 = H2) I2 ⟨rfl, rfl⟩) fun vu s3 ⟨u, H3, I3, pu, eu, e3⟩ => ?_
  subst eu e3
  refine thn (hst.run pins s3 σ H3 (fun o H4 => o = some (-1) ∧ H4 = H3) I3 ⟨1, rfl, -1, rfl, rfl, rfl⟩) fun vs s4 ⟨o, H4, I4, ps, eo, e4⟩ => ?_
  subst eo e4
  have I5 : Inv X pins σ H4 { s4 with heap := s4.heap.push { cls := .type "slice", data := .fields #[vl, vu, vs] } } := I4.kept (t' := s4.toks) fun b ob q => Heap.get?_push_of_some _ q
  show wpAny (model X.prog X.w) X.A (subscriptTail e (.Slice none none (some (.UnaryOp .USub (.Constant (.int 1) k p1) p2)) p3) (.ref a) (.ref s4.heap.objs.size)) (EP X pins σ Q) X.xe { s4 with heap := s4.heap.push { cls := .type "slice", data := .fields #[vl, vu, vs] } }
  rcases hx with ⟨hx, q⟩ | ⟨hx, q⟩
  · obtain ⟨its, r, ht, hz⟩ := I5.list hx
    have hlen := r.length
    refine tail_any (ops := [.ref a, .ref s4.heap.objs.size]) ht.isList.typeIs (PySem.slot_list_getitem.lookup) ?_ (by with_unfolding_all rfl)
    refine wpAny_getItem_list_slice ht.isList (Heap.IsSliceOf.new _ vl vu vs) pl pu ps (by decide) ?_ (by rw [List.size_toArray]; omega)
    rw [PySem.W.krv_pick]
    refine ⟨.ref _, _, I5.laid (t' := s4.toks) (o := .lst xs.reverse) (fun b ob q => Heap.get?_push_of_some _ q) (Nat.le_refl _) ?_, rfl, q _ (I5.hok.fresh (Nat.le_refl _))⟩
    exact ⟨by rw [List.length_reverse]; exact hz, _, 0, r.reverse, Heap.get?_push_size _ rfl⟩
  · obtain ⟨its, r, ht, hz⟩ := I5.tuple hx
    have hlen := r.length
    refine tail_any (ops := [.ref a, .ref s4.heap.objs.size]) ht.typeIs (PyProof.Rows.slot_tuple_getitem.lookup) ?_ (by with_unfolding_all rfl)
    refine getItem_tuple_back ht (Heap.IsSliceOf.new _ vl vu vs) pl pu ps ?_ (by rw [List.size_toArray]; omega)
    refine ⟨.ref _, _, I5.laid (t' := s4.toks) (o := .tup xs.reverse) (fun b ob q => Heap.get?_push_of_some _ q) (Nat.le_refl _) ?_, rfl, q _ (I5.hok.fresh (Nat.le_refl _))⟩
    exact ⟨by rw [List.length_reverse]; exact hz, _, r.reverse, IsTup.new _ _⟩
def gRevS (d : D) : Option D := match d with
  | .tup l => if D.noOwnL l = true then some (.tup l.reverse) else none
  | .lst _ l => if D.noOwnL l = true then some (.lst true l.reverse) else none
  | .scr l => if D.noOwnL l = true then some (.lst true l.reverse) else none
  | _ => none
def fRevS (f : M D) : M D := fun ρ => (f ρ).bind fun p => (gRevS p.1).bind fun d => some (d, p.2)
theorem pev_revS (he : PEV X T O x e f) : PEV X T [] true (.Subscript e (.Slice none none (some (.UnaryOp .USub (.Constant (.int 1) k p1) p2)) p3) pos) (fRevS f) := by
  refine PE.imp (pe_revS he) fun σ H Q h => ?_
  obtain ⟨Z, ρ, Fs, d, ρ', rel, hf, q⟩ := h
  unfold fRevS at hf
  obtain ⟨⟨d1, ρ1⟩, h1, hf⟩ := Option.bind_eq_some_iff.mp hf
  obtain ⟨d', h2, hf⟩ := Option.bind_eq_some_iff.mp hf
  cases hf
  refine ⟨Z, ρ, Fs, d1, _, rel, h1, fun v H' Z' Fs' F rel' f' w c => ?_⟩
  cases d1 <;> simp only [gRevS] at h2 <;> try (cases h2)
  · split at h2
    · rename_i hn
      cases h2
      obtain ⟨a, vs, e, hq, rs⟩ := w.r.tup_inv
      refine ⟨a, vs, e, .inr ⟨hq, fun p hp => ?_⟩⟩
      refine new_tup hp (rs.nil_of hn).rev0 fun v H2 F k r nd nw => ?_
      have fz := f'.trans (Frm.pureT [] k)
      rw [List.append_nil] at fz
      exact q v H2 Z' Fs' F (rel'.keep0 k) fz (Val.new rel' r nd nw) (Cf.new f'.keep nw)
    · cases h2
  · split at h2
    · rename_i hn
      cases h2
      obtain ⟨a, vs, G, e, hq, rs, _⟩ := w.r.lst_at
      refine ⟨a, vs, e, .inl ⟨hq, fun p hp => ?_⟩⟩
      refine new_list hp (rs.nil_of hn).rev0 fun v H2 F k r nd nw => ?_
      have fz := f'.trans (Frm.pureT [] k)
      rw [List.append_nil] at fz
      exact q v H2 Z' Fs' F (rel'.keep0 k) fz (Val.new rel' r nd nw) (Cf.new f'.keep nw)
    · cases h2
  · split at h2
    · cases h2
      obtain ⟨a, vs, e, _, hq, rs⟩ := w.r.scr_at
      refine ⟨a, vs, e, .inl ⟨hq, fun p hp => ?_⟩⟩
      refine new_list hp rs.rev0 fun v H2 F k r nd nw => ?_
      have fz := f'.trans (Frm.pureT [] k)
      rw [List.append_nil] at fz
      exact q v H2 Z' Fs' F (rel'.keep0 k) fz (Val.new rel' r nd nw) (Cf.new f'.keep nw)
    · cases h2
end
end Vl

namespace Vl
open PySem PySem.Spec PyProof.Rows L2 HT
/-! ### a, b, c = a list -/
section
variable {prog : Program} {w : World} {A : Around} {E : Value → Shared → Prop} {s : Shared}
theorem drawL {it l : Addr} {items : Array Value} (hne : l ≠ it) : ∀ (n i : Nat) (s : Shared) (Q : List Value → Shared → Prop), s.heap.IsListIter it l i → s.heap.IsList l items → i + n ≤ items.size →
    (∀ h' : Heap, h'.IsListIter it l (i + n) → Heap.SameBut it s.heap h' → Q ((items.toList.drop i).take n) { s with heap := h' }) → wpAny (model prog w) A (draw (.ref it) n) Q E s
  | 0, i, s, Q, hi, _, _, hQ => by
    show wpAny _ _ (pure []) Q E s
    have := hQ s.heap hi (Heap.SameBut.refl ..)
    rw [List.take_zero] at this
    exact wpAny_pure this
  | n + 1, i, s, Q, hi, hl, hle, hQ => by
    have hlt : i < items.size := by omega
    show wpAny _ _ (pyNext (.ref it) >>= _) Q E s
    refine wpAny_bind (wpAny_pyNext_list_item hi hl (x := items[i]) (by simp [hlt]) fun h1 i1 s1 => ?_)
    refine wpAny_bind (wpAny_holding (drawL hne n (i + 1) _ _ i1 (hl.extBut s1.extBut hne) (by omega) fun h2 i2 s2 => wpAny_pure ?_))
    have q := hQ h2 (by rw [Nat.add_comm n 1, ← Nat.add_assoc]; exact i2) (s1.trans s2)
    have hd : items.toList.drop i = items[i] :: items.toList.drop (i + 1) := by simp [List.drop_eq_getElem_cons, hlt]
    rwa [hd, List.take_succ_cons] at q
theorem unpackItemsL {l : Addr} {items : Array Value} {Q : List Value → Shared → Prop} (hh : A.handled = none) (hl : s.heap.IsList l items)
    (hQ : ∀ h', Heap.ExtBut s.heap.objs.size s.heap h' → Q items.toList { s with heap := h' }) : wpAny (model prog w) A (unpackItems (.ref l) items.size none) Q E s := by
  have hne : l ≠ s.heap.objs.size := by
    obtain ⟨o, ho, _⟩ := hl
    exact Nat.ne_of_lt (Heap.lt_size ho)
  unfold unpackItems
  refine wpAny_bind ?_
  unfold notIterableAtAll
  refine wpAny_bind (wpAny_specialOf hl.typeIs slot_list_iter.lookup ?_)
  refine wpAny_pure ?_
  rw [if_neg Bool.false_ne_true]
  refine wpAny_bind (wpAny_holding (wpAny_pyIter_list hl ?_))
  refine wpAny_bind (wpAny_holding (drawL hne items.size 0 _ _ ⟨_, Heap.get?_push_size _ rfl, rfl, rfl⟩ (hl.push _) (by omega) fun h1 i1 s1 => ?_))
  have hall : (items.toList.drop 0).take items.size = items.toList := by
    rw [List.drop_zero]
    exact List.take_of_length_le (by simp)
  rw [hall]
  rw [if_neg (by simp)]
  have l1 : h1.IsList l items := (hl.push _).extBut s1.extBut hne
  refine wpAny_bind (wpAny_holding (wpAny_pyNext_list_end hh i1 l1 (by simp) fun h2 e2 => ?_))
  simp only [Option.isSome_none, Bool.false_eq_true, if_false]
  exact wpAny_pure (hQ h2 fun b o hb e => e2 b o hb (s1.extBut b o hb (Heap.get?_push_of_some _ e)))
theorem assign_Tuple_list {env : PySem.Env} {elts : List Expr} {x1} {pos : Pos} {l : Addr} {items : Array Value} {Q : Unit → Shared → Prop} (hh : A.handled = none) (hl : s.heap.IsList l items)
    (hn : (assignEach elts env).length = items.size) (hstar : (assignEach elts env).findIdx? (·.1) = none)
    (h : ∀ h', Heap.ExtBut s.heap.objs.size s.heap h' → wpAny (model prog w) A (assignInOrder ((assignEach elts env).map (·.2)) items.toList) Q E { s with heap := h' }) :
    wpAny (model prog w) A (assign (.Tuple elts x1 pos) env (.ref l)) Q E s := by
  rw [assign_Tuple]
  refine wpAny_bind (wpAny_standAt ?_)
  unfold unpack
  rw [hn, hstar]
  exact wpAny_bind (wpAny_holding (unpackItemsL hh hl h))
/-! ### t += u of tuples -/
theorem noI_tuple_add : typeLookup (.type "tuple") (dunderI "add") = pure none := by rw [typeLookup_type, builtinLookup_eq_fast]; kernel_rfl
theorem iconcat_meets {T id : String} {B : Builtin} {a b : Value} {S : PySem.Spec} {Q : Value → Shared → Prop} (ha : s.TypeIs a T) (hb : s.TypeIs b T) (hno : typeLookup (.type T) (dunderI "add") = pure none)
    (hfill : fillsNumberSlot (.type T) "add" = pure false) (hseq : seqSlot? (.type T) "__add__" = pure (some (.builtin id))) (slot : PySem.Slot T "__add__" id)
    (entry : entryFor table id = some B) (args : argsOk id ⟨[a, b], []⟩) (g : Meets (B ⟨[a, b], []⟩) S) (h : S A (wants Q E) s) : wpAny (model prog w) A (inplaceOp .Add a b) Q E s :=
  wpAny_inplaceOp_concat ha hb hno hfill hseq (call_meets slot ha entry args g h)
theorem icat_tup {t b : Addr} {vs ws : List Value} {Q : Value → Shared → Prop} (ht : IsTup s.heap t vs.toArray) (hb : IsTup s.heap b ws.toArray)
    (h0 : vs = [] → Q (.ref b) s) (h1 : vs ≠ [] → ws = [] → Q (.ref t) s) (h2 : vs ≠ [] → ws ≠ [] → Q (.ref s.heap.objs.size) { s with heap := s.heap.push { cls := .type "tuple", data := .seq (vs ++ ws).toArray } })
    (hsz : vs.length + ws.length ≤ sizeLine) : wpAny (model prog w) A (inplaceOp .Add (.ref t) (.ref b)) Q E s := by
  obtain ⟨⟨cls, dd, data, sl⟩, ho, hc, n, hd⟩ := id ht
  obtain ⟨⟨cls2, dd2, data2, sl2⟩, ho2, hc2, n2, hd2⟩ := id hb
  simp only at hc hd hc2 hd2
  subst hc hd hc2 hd2
  have e : vs.toArray ++ ws.toArray = (vs ++ ws).toArray := by simp
  by_cases hv : vs = []
  · exact iconcat_meets ⟨_, ho, rfl⟩ ⟨_, ho2, rfl⟩ noI_tuple_add noFill_tuple_add seq_tuple_add PySem.F.slot_tuple_add PySem.F.entry_tuple_add (PySem.F.args_tuple_add_2 _ _)
      (tuple_addW0 t b vs.toArray ws.toArray n n2 dd dd2 sl sl2 (by simp [hv])) ⟨ho, ho2, h0 hv⟩
  · by_cases hw : ws = []
    · exact iconcat_meets ⟨_, ho, rfl⟩ ⟨_, ho2, rfl⟩ noI_tuple_add noFill_tuple_add seq_tuple_add PySem.F.slot_tuple_add PySem.F.entry_tuple_add (PySem.F.args_tuple_add_2 _ _)
        (tuple_addW1 t b vs.toArray ws.toArray n n2 dd dd2 sl sl2 (by simpa using hv) (by simp [hw])) ⟨ho, ho2, h1 hv hw⟩
    · refine iconcat_meets ⟨_, ho, rfl⟩ ⟨_, ho2, rfl⟩ noI_tuple_add noFill_tuple_add seq_tuple_add PySem.F.slot_tuple_add PySem.F.entry_tuple_add (PySem.F.args_tuple_add_2 _ _)
        (tuple_addW2 t b vs.toArray ws.toArray n n2 dd dd2 sl sl2 (by simpa using hv) (by simpa using hw) (by rw [List.size_toArray, List.size_toArray]; exact hsz)) ⟨ho, ho2, ?_⟩
      rw [e]
      exact h2 hv hw
end
section
variable {X : Cx} {T T1 T2 O W W1 : List Nat} {x : Bool} {e : Expr} {f : M D} {gs : List D → Env → Option Env} {pos : Pos}
theorem nil_of_len0 {α β : Type} {l : List α} {m : List β} (h : l.length = m.length) : l = [] ↔ m = [] := by
  constructor
  · intro z; subst z; exact List.eq_nil_of_length_eq_zero h.symm
  · intro z; subst z; exact List.eq_nil_of_length_eq_zero h
theorem iop_catA : PIp X .Add (rCatA X.K) := by
  intro pins s σ H x y v u Q I rx ry h
  obtain ⟨a, b, xs, ys, rfl, rfl, ha, hb, hz, q0, q1, q2⟩ := h
  cases rx
  cases ry
  obtain ⟨its, r1, p1, _⟩ := I.tuple ha
  obtain ⟨its2, r2, p2, _⟩ := I.tuple hb
  refine icat_tup p1 p2 (fun z => ?_) (fun z z2 => ?_) (fun z z2 => ?_) (by rw [← r1.length, ← r2.length]; exact hz)
  · exact ⟨.ref b, H, I, rfl, q0 ((nil_of_len0 r1.length).mpr z)⟩
  · exact ⟨.ref a, H, I, rfl, q1 (fun z3 => z ((nil_of_len0 r1.length).mp z3)) ((nil_of_len0 r2.length).mpr z2)⟩
  · refine ⟨.ref s.heap.objs.size, _, I.laid (t' := s.toks) (o := .tup (xs ++ ys)) (fun b ob q => Heap.get?_push_of_some _ q) (Nat.le_refl _) ?_, rfl,
      q2 (fun z3 => z ((nil_of_len0 r1.length).mp z3)) (fun z3 => z2 ((nil_of_len0 r2.length).mp z3)) _ (I.hok.fresh (Nat.le_refl _))⟩
    exact ⟨by rw [List.length_append]; exact hz, _, r1.append r2, IsTup.new _ _⟩
abbrev ipAddT (K : PySem.W.Frag) : TIp := fun x y H Q => ipI (fun i j => i + j) x y H Q ∨ rCatA K x y H Q
theorem ip_addT : PIp X .Add (ipAddT X.K) := by
  intro pins s σ H x y v u Q I rx ry h
  rcases h with h | h
  · exact ip_add pins s σ H x y v u Q I rx ry h
  · exact iop_catA pins s σ H x y v u Q I rx ry h
def gAddT (d e : D) : Option D := match d, e with
  | .int i, .int j => some (.int (i + j))
  | .tup a, .tup b => if (szOk (a.length + b.length) && D.noOwnL a && D.noOwnL b) = true then some (.tup (a ++ b)) else none
  | _, _ => none
theorem os_addT {K : PySem.W.Frag} : OpS K (ipAddT K) gAddT := fun Z H d1 d2 v1 v2 F1 F2 d Q r1 r2 hg q => by
  unfold gAddT at hg
  split at hg
  · cases hg
    exact .inl ⟨_, _, r1.int_inv, r2.int_inv, same_val (.int _) q⟩
  · split at hg
    · rename_i h
      cases hg
      rw [Bool.and_eq_true, Bool.and_eq_true] at h
      obtain ⟨a, vs, rfl, ha, ra⟩ := r1.tup_tr
      obtain ⟨b, ws, rfl, hb, rb⟩ := r2.tup_tr
      have ra := ra.nil_of h.1.2
      have rb := rb.nil_of h.2
      refine .inr ⟨a, b, vs, ws, rfl, rfl, SqT.of ha, SqT.of hb, by rw [← ra.length, ← rb.length]; exact sz_of h.1.1, fun e => ?_, fun _ e => ?_, fun _ _ p hp => new_tup hp (ra.app rb) q⟩
      · have e2 := List.eq_nil_of_length_eq_zero (ra.length.trans (by rw [e]; rfl))
        rw [e2, List.nil_append] at q
        exact same_val (.tup hb rb) q
      · have e2 := List.eq_nil_of_length_eq_zero (rb.length.trans (by rw [e]; rfl))
        rw [e2, List.append_nil] at q
        exact same_val (.tup ha ra) q
    · cases hg
  · cases hg
/-! the rule for a, b, c = xs -/
def gLstT (K : PySem.W.Frag) (n : Nat) (t : TGs) : TG := fun v σ H Q => ∃ a xs, v = .ref a ∧ ((SqL K H a xs ∧ xs.length = n ∧ t xs σ H Q) ∨ (SqT K H a xs ∧ xs.length = n ∧ t xs σ H Q))
theorem pg_lst {es : List Expr} {k : Nat} {t : TGs} {n : Nat} (hc : X.calm = true) (h : PGs X es t)
    (hn : (assignEach es X.env).length = n := by rfl) (hst : (assignEach es X.env).findIdx? (·.1) = none := by rfl) : PG X (.Tuple es k pos) (gLstT X.K n t) := by
  refine ⟨fun pins s σ H v u Q I r hw => ?_⟩
  obtain ⟨a, xs, e1, hw⟩ := hw
  subst e1
  cases r
  rcases hw with ⟨hq, hl, hw⟩ | ⟨hq, hl, hw⟩
  · obtain ⟨its, rv, ht, hz⟩ := I.list hq
    refine assign_Tuple_list (I.ok.hd hc) ht.isList (by simp [hn, ← hl, rv.length]) hst fun h' hx => ?_
    have I1 : Inv X pins σ H { s with heap := h' } := I.kept (t' := s.toks) fun b o e => hx b o (Nat.ne_of_lt (Heap.lt_size e)) e
    exact h.run pins _ σ H xs _ Q I1 (by simpa using rv) hw
  · obtain ⟨its, rv, ht, hz⟩ := I.tuple hq
    refine assign_Tuple_tuple (I.ok.hd hc) ht (by simp [hn, ← hl, rv.length]) hst fun h' hx => ?_
    have I1 : Inv X pins σ H { s with heap := h' } := I.kept (t' := s.toks) fun b o e => hx b o (Nat.ne_of_lt (Heap.lt_size e)) e
    exact h.run pins _ σ H xs _ Q I1 (by simpa using rv) hw
def sUnp (n : Nat) (gs : List D → Env → Option Env) (f : M D) : MS := fun ρ => (f ρ).bind fun p => match p.1 with
  | .tup l => if (l.length == n && D.noOwnL l) = true then (gs l p.2).bind fun ρ' => some (.nx ρ') else none
  | .lst _ l => if (l.length == n && D.noOwnL l) = true then (gs l p.2).bind fun ρ' => some (.nx ρ') else none
  | _ => none
theorem psv_unp {es : List Expr} {k : Nat} {n : Nat} (hc : X.calm = true) (he : PEV X T1 O x e f) (h : PGsV X W T2 es gs) (hn : (assignEach es X.env).length = n := by rfl) (hst : (assignEach es X.env).findIdx? (·.1) = none := by rfl)
    (hs : swapsWithSole [.Tuple es k p2] e pos.line X.env = pure false := by rfl) (hw : swappedStores [.Tuple es k p2] e X.env = pure none := by rfl) (h1 : (assignEach [.Tuple es k p2] X.env).map (·.2) = [assign (.Tuple es k p2) X.env] := by rfl) :
    PSV X W (T1 ++ T2) (.Assign [.Tuple es k p2] e pos) (sUnp n gs f) := by
  refine PS.imp (ps_asg he (pg_lst hc h hn hst) hs hw h1) fun D σ H h => ?_
  obtain ⟨Z, ρ, Fs, r, rel, hf, h1, h2, h3, h4⟩ := h
  unfold sUnp at hf
  obtain ⟨⟨d, ρ1⟩, hp, hf⟩ := Option.bind_eq_some_iff.mp hf
  cases d <;> simp only at hf <;> try (cases hf)
  · split at hf
    · rename_i hn
      obtain ⟨ρ2, h5, hf⟩ := Option.bind_eq_some_iff.mp hf
      cases hf
      rw [Bool.and_eq_true, beq_iff_eq] at hn
      refine ⟨Z, ρ, Fs, _, ρ1, rel, hp, fun v H' Z' Fs' F rel' f' w c => ?_⟩
      obtain ⟨a, vs, e, hq, rs⟩ := w.r.tup_inv
      have rs := rs.nil_of hn.2
      exact ⟨a, vs, e, .inr ⟨hq, by rw [← rs.length]; exact hn.1, Z', ρ1, Fs', _, ρ2, rel', rs, h5, fun σ2 H2 Z2 Fs2 fn2 => h1 _ rfl _ _ _ _ ((Fin.of rel' f').trans fn2)⟩⟩
    · cases hf
  · split at hf
    · rename_i hn
      obtain ⟨ρ2, h5, hf⟩ := Option.bind_eq_some_iff.mp hf
      cases hf
      rw [Bool.and_eq_true, beq_iff_eq] at hn
      refine ⟨Z, ρ, Fs, _, ρ1, rel, hp, fun v H' Z' Fs' F rel' f' w c => ?_⟩
      obtain ⟨a, vs, G, e, hq, rs, _⟩ := w.r.lst_at
      have rs := rs.nil_of hn.2
      exact ⟨a, vs, e, .inl ⟨hq, by rw [← rs.length]; exact hn.1, Z', ρ1, Fs', _, ρ2, rel', rs, h5, fun σ2 H2 Z2 Fs2 fn2 => h1 _ rfl _ _ _ _ ((Fin.of rel' f').trans fn2)⟩⟩
    · cases hf
theorem pev_ifX {c a b : Expr} {ft : M Bool} {fa fb : M D} (hc : PTV X T c ft) (ha : PEV X T1 [] true a fa) (hb : PEV X T2 [] true b fb) : PEV X (T ++ (T1 ++ T2)) [] true (.IfExp c a b pos) (fIf ft fa fb) := pev_if hc ha hb
end
end Vl

namespace Vl
open PySem PySem.Spec PyProof.Rows L2
/-! ### tuples of which the whole object is known; t.index(i) -/
def rTupX (K : PySem.W.Frag) : List V → Hp → VK → Prop := fun xs H Q => ∃ a ys, xs = [.ref a] ∧ SqL K H a ys ∧ ∀ p o, o.cls = .type "tuple" → o.dict = none → H p = none → Q (.ref p) (upd H p (.frz o (.tup ys)))
theorem cr_tupX {X : Cx} : CallR X (.type "tuple") (rTupX X.K) := by
  intro pins s σ H xs us Q I r h
  obtain ⟨a, ys, rfl, hq, q⟩ := h
  obtain ⟨u, rfl, ru⟩ := vals1 r
  cases ru
  obtain ⟨its, rv, pl, hz⟩ := I.list hq
  have hl := rv.length
  refine call_tuple_list pl.isList (fun h' kp => ?_) (by rw [List.size_toArray]; omega)
  have J : Inv X pins σ H { s with heap := h' } := I.kept (t' := s.toks) kp
  have e := Heap.get?_push_size h' (o := ({ cls := .type "tuple", data := .seq its.toArray } : Obj)) rfl
  refine ⟨.ref h'.objs.size, _, J.laid (t' := s.toks) (fun b o z => Heap.get?_push_of_some _ z) (Nat.le_refl _) (o := .frz { cls := .type "tuple", data := .seq its.toArray } (.tup ys)) ⟨e, ⟨hz, its, rv, _, e, rfl, _, rfl⟩⟩, rfl, q _ _ rfl rfl (J.hok.fresh (Nat.le_refl _))⟩
def gTupX : List D → Option D
  | [.lst _ l] => if D.noOwnL l = true then some (.xt l) else none
  | _ => none
theorem cs_tupX {K : PySem.W.Frag} : ClS K (rTupX K) gTupX := fun Z H ds vs F1 d Q rs hg q => by
  unfold gTupX at hg
  split at hg
  · split at hg
    · rename_i hn
      cases hg
      obtain ⟨v, rfl, r⟩ := rs.one_inv
      obtain ⟨a, ws, G, rfl, ha, r2, _⟩ := r.lst_at
      refine ⟨a, ws, rfl, ha, fun p o h1 h2 hp => ?_⟩
      have k : Keep M0 H (upd H p (.frz o (.tup ws))) := Keep.new hp
      exact q _ _ [] k (.xt upd_same h1 h2 ((r2.nil_of hn).keep0 k)) List.nodup_nil fun a ha => (by cases ha)
    · cases hg
  · cases hg
/-- known for good, without a dict -/
def tyXt (x : V) (H : Hp) : Prop := ∃ a o vs, x = .ref a ∧ H a = some (.frz o (.tup vs)) ∧ o.cls = .type "tuple" ∧ o.dict = none
theorem ty_xt {X : Cx} : TyOk X "tuple" tyXt := by
  intro pins σ H s x v I r t
  obtain ⟨a, o, vs, rfl, h, h1, h2⟩ := t
  cases r
  obtain ⟨e, _⟩ := I.hok a _ h
  refine ⟨⟨o, e, h1⟩, fun b z => ?_⟩
  cases z
  exact ⟨o, e, h2⟩
def rIxT (K : PySem.W.Frag) : V → List V → Hp → VK → Prop := fun x xs H Q => ∃ (a : Addr) (ys : List Int) (z : Int) (j : Nat), x = .ref a ∧ xs = [.int z] ∧ SqT K H a (ys.map V.int) ∧ ys[j]? = some z ∧ (∀ m, m < j → ys[m]? ≠ some z) ∧ Q (.int (j : Nat)) H
theorem flat_ints (ys : List Int) : (ys.map V.int).all flatV = true := by
  rw [List.all_map]
  exact List.all_eq_true.mpr fun _ _ => rfl
theorem mt_ixT {X : Cx} : MtR X "tuple.index" (rIxT X.K) := by
  intro pins s σ H x xs v us Q I rx rs h
  obtain ⟨a, ys, z, j, rfl, rfl, hq, hy, hno, q⟩ := h
  cases rx
  obtain ⟨u, rfl, t, rfl⟩ := vals1 rs
  obtain ⟨its, r, ⟨⟨cls, dd, dt, sl⟩, ho, hc, n, hd⟩, hz⟩ := I.tuple hq
  simp only at hc hd
  subst hc hd
  have hl : its.toArray.size = ys.length := by rw [List.size_toArray, ← r.length, List.length_map]
  have at' : ∀ (m : Nat) (hm : m < its.toArray.size), ∃ y t', ys[m]? = some y ∧ its.toArray[m] = Value.int y t' := fun m hm => by
    have hm2 : m < ys.length := by rw [← hl]; exact hm
    obtain ⟨w, hw, t', e⟩ := r.get (i := m) (x := .int ys[m]) (by rw [List.getElem?_map, List.getElem?_eq_getElem hm2]; rfl)
    obtain ⟨_, e2⟩ := List.getElem?_eq_some_iff.mp hw
    exact ⟨ys[m], t', List.getElem?_eq_getElem hm2, by rw [← e, ← e2]; simp⟩
  have hj : j < its.toArray.size := by rw [hl]; exact (List.getElem?_eq_some_iff.mp hy).1
  refine call_meets PySem.F.slot_tuple_index ⟨_, ho, rfl⟩ PySem.F.entry_tuple_index (PySem.F.args_tuple_index_2 _ _) (TI.tuple_indexAt a its.toArray n dd sl (.int z t) (eqU (.int z)) j hj ?_ ?_)
    ⟨ho, fun w hw => mem_eqAt (x := .int z) ⟨t, rfl⟩ rfl r (flat_ints ys) w (by simpa using hw), ⟨.int (j : Nat), H, I.tok _, ⟨_, rfl⟩, q⟩⟩
  · obtain ⟨y, t', h1, h2⟩ := at' j hj
    rw [hy] at h1
    cases h1
    rw [h2]
    show (z == z) = true
    exact beq_self_eq_true z
  · intro m hm hmj
    obtain ⟨y, t', h1, h2⟩ := at' m hm
    rw [h2]
    show (y == z) = false
    exact beq_eq_false_iff_ne.mpr fun e => hno m hmj (e ▸ h1)
/-- the place of the first that is z -/
def ixD (z : Int) : List D → Option Nat
  | [] => none
  | .int y :: r => if y = z then some 0 else (ixD z r).map (· + 1)
  | _ :: _ => none
def intsD : List D → Option (List Int)
  | [] => some []
  | .int y :: r => (intsD r).map (y :: ·)
  | _ :: _ => none
def gIxT (d e : D) : Option D := match d, e with
  | .xt l, .int z => (intsD l).bind fun ys => if z ∈ ys then some (.int ((ys.idxOf z : Nat) : Int)) else none
  | _, _ => none
theorem Rs.intsD {K : PySem.W.Frag} {Z : Addr → Prop} {H : Hp} : ∀ {l : List D} {ys : List Int} {vs : List V} {F : List Addr}, Rs K Z H l vs F → intsD l = some ys → vs = ys.map V.int
  | [], ys, _, _, r, h => by cases r; cases h; rfl
  | d :: l, ys, _, _, .cons r rs, h => by
    cases d <;> try (cases h)
    rename_i y
    simp only [Vl.intsD] at h
    obtain ⟨zs, h1, rfl⟩ := Option.map_eq_some_iff.mp h
    rw [r.int_inv, Rs.intsD rs h1]
    rfl
theorem idxOf_at {z : Int} : ∀ {ys : List Int}, z ∈ ys → ys[ys.idxOf z]? = some z ∧ ∀ m, m < ys.idxOf z → ys[m]? ≠ some z
  | [], h => (by cases h)
  | y :: r, h => by
    by_cases e : y = z
    · subst e
      rw [List.idxOf_cons_self]
      exact ⟨rfl, fun m hm => absurd hm (Nat.not_lt_zero _)⟩
    · have hr : z ∈ r := (List.mem_cons.mp h).resolve_left fun q => e q.symm
      obtain ⟨h1, h2⟩ := idxOf_at hr
      have q : (y :: r).idxOf z = r.idxOf z + 1 := by rw [List.idxOf_cons, beq_eq_false_iff_ne.mpr e]; rfl
      rw [q]
      refine ⟨h1, fun m hm => ?_⟩
      cases m with
      | zero => intro q; exact e (Option.some.inj q)
      | succ m => exact h2 m (Nat.lt_of_succ_lt_succ hm)
section
variable {X : Cx} {T T1 T2 O O1 O2 : List Nat} {x x1 x2 : Bool} {o e : Expr} {f fa fb : M D} {apos cpos : Pos}
theorem pev_ixT (ho : PEV X T1 O1 x1 o fa) (he : PEV X T2 O2 x2 e fb) (hbase : attributeBase o "index" X.env (eval o X.env) = eval o X.env := by rfl)
    (hfew : ((backTo cpos (starEach (e :: []) X.env)).all (fun x => !x.1) && (backToKw cpos (keywordEach [] X.env)).all (fun x => x.1.isSome)
      && decide ((e :: []).length + ([] : List Keyword).length + (if ([] : List Keyword).isEmpty then 0 else 1) < 30)) = true := by rfl)
    (hline : (apos.endLine == cpos.line) = true := by rfl) (hs : starEach (e :: []) X.env = (false, eval e X.env) :: starEach [] X.env := by rfl) (hplain : (backTo cpos (starEach [] X.env)).any (·.1) = false := by rfl) :
    PEV X (T1 ++ T2) [] true (.Call (.Attribute o "index" apos) [e] [] cpos) (fOp O1 T2 gIxT fa fb) := by
  refine PE.imp (pe_mG ty_xt PySem.F.plainAttrs_tuple PySem.F.slot_tuple_index (by rfl) mt_ixT ho (pa_cons he pa_nil hs) hbase hfew hline hs hplain) fun σ H Q h => ?_
  obtain ⟨Z, ρ, Fs, d, ρ', rel, hf, q⟩ := h
  unfold fOp at hf
  obtain ⟨⟨d1, ρ1⟩, h1, hf⟩ := Option.bind_eq_some_iff.mp hf
  obtain ⟨⟨d2, ρ2⟩, h2, hf⟩ := Option.bind_eq_some_iff.mp hf
  split at hf
  · rename_i hsf
    obtain ⟨d', h3, hf⟩ := Option.bind_eq_some_iff.mp hf
    cases hf
    simp only [gIxT] at h3
    split at h3
    · rename_i l z _ _
      obtain ⟨ys, hi, h3⟩ := Option.bind_eq_some_iff.mp h3
      split at h3
      · rename_i hz
        cases h3
        refine ⟨Z, ρ, Fs, .xt l, ρ1, rel, h1, fun v1 H1 Z1 Fs1 F1 rel1 f1 w1 c1 => ⟨?_, Z1, ρ1, Fs1, .int z, _, rel1, h2, fun v2 H2 Z2 Fs2 F2 rel2 f2 w2 c2 => ?_⟩⟩
        · cases w1.r with
          | xt a1 a2 a3 a4 => exact ⟨_, _, _, rfl, a1, a2, a3⟩
        · have w1' := (w1.keep rel1 f2 hsf).r
          obtain rfl := w2.r.int_inv
          obtain ⟨i1, i2⟩ := idxOf_at hz
          cases w1' with
          | xt a1 a2 a3 a4 =>
            have e := a4.intsD hi
            subst e
            exact ⟨_, ys, z, _, rfl, rfl, .inl (.inr ⟨_, a1⟩), i1, i2, q _ H2 Z2 Fs2 [] rel2 (f1.trans f2) ⟨.int _, fun _ _ h => (by cases h), fun _ => ⟨List.nodup_nil, fun _ h => (by cases h)⟩⟩ Cf.nil⟩
      · cases h3
    · cases h3
  · cases hf
/-- an exact tuple taken as a tuple -/
def fFg (f : M D) : M D := fun ρ => (f ρ).bind fun p => some (p.1.fg, p.2)
theorem pev_fg (h : PEV X T O x e f) : PEV X T O x e (fFg f) := by
  refine PE.imp h fun σ H Q h => ?_
  obtain ⟨Z, ρ, Fs, d, ρ', rel, hf, q⟩ := h
  unfold fFg at hf
  obtain ⟨⟨d1, ρ1⟩, h1, hf⟩ := Option.bind_eq_some_iff.mp hf
  cases hf
  exact ⟨Z, ρ, Fs, d1, _, rel, h1, fun v H' Z' Fs' F rel' f' w c => q v H' Z' Fs' F rel' f' ⟨w.r.fg, w.ori, w.exc⟩ c⟩
end
end Vl

/-! ### dicts with tuple keys whose values are ints: ==, != -/
namespace Vl
open PySem PySem.Calls PyProof.Rows PyProof.V PySem.Spec L2
def ivT : Value → Int
  | .int i _ => i
  | _ => 0
abbrev ET := List Key × Addr × Value
/-- the entry's key is there too, with an equal number -/
def hitT (xb : List ET) (p : ET) : Bool := match atKey xb p.1 with
  | some q => decide (ivT p.2.2 = ivT q.2)
  | none => false
def resT (xa xb : List ET) : Bool := xa.length == xb.length && xa.all (hitT xb)
def IntsT (xs : List ET) : Prop := ∀ p ∈ xs, ∃ i t, p.2.2 = Value.int i t
section
variable {prog : Program} {w : World} {A : Around} {E : Value → Shared → Prop} {s : Shared}
theorem atKey_int {xs : List ET} (h : IntsT xs) {k : List Key} {q : Addr × Value} (e : atKey xs k = some q) : ∃ i t, q.2 = Value.int i t := by
  unfold atKey at e
  obtain ⟨p, hp, rfl⟩ := Option.map_eq_some_iff.mp e
  exact h p (List.mem_of_find?_eq_some hp)
theorem sameT {nm : String} {a b : Addr} {xa xb : List ET} {Q : Bool → Shared → Prop} (hu : A.units < cLine) (ha : (a == sysModules) = false) (hb : (b == sysModules) = false)
    (da : s.heap.DictOfH (tupleKind (mixKind prog w)) a xa) (db : s.heap.DictOfH (tupleKind (mixKind prog w)) b xb) (ia : IntsT xa) (ib : IntsT xb) (h : Q (resT xa xb) s) :
    wpAny (model prog w) A (Builtin.Dict.samePairs nm a b) Q E s := by
  obtain ⟨oa, es, ep, hoa, _, hda, hea, hka, hna⟩ := da
  obtain ⟨ob, fs, ep', hob, _, hdb, heb, hkb, hnb⟩ := db
  have la := size_of_entries hea
  have lb := size_of_entries heb
  unfold Builtin.Dict.samePairs Builtin.Dict.showsAll
  rw [if_neg (show ¬ (a == sysModules) = true by rw [ha]; exact Bool.false_ne_true), if_neg (show ¬ (b == sysModules) = true by rw [hb]; exact Bool.false_ne_true)]
  refine wpAny_bind (wpAny_pure (wpAny_bind (wpAny_pure ?_)))
  refine wpAny_bind (wpAny_dictEntries hoa hda ?_)
  dsimp only
  refine wpAny_bind (wpAny_dictEntries hob hdb ?_)
  unfold resT at h
  by_cases hsz : es.size = fs.size
  · rw [if_neg (by rw [hsz]; simp)]
    have hl : (xa.length == xb.length) = true := by rw [← la, ← lb, hsz]; simp
    rw [hl, Bool.true_and] at h
    refine wpAny_bind (wpAny_dictEpoch hoa hda ?_)
    refine wpAny_bind ?_
    rw [Std.Legacy.Range.forIn_eq_forIn_range']
    simp only [Std.Legacy.Range.size, Nat.sub_zero, Nat.add_sub_cancel, Nat.div_one]
    refine wpAny_forIn_list _ (fun rest q z => z = s ∧ q = (none, ()) ∧ ∃ i, i ≤ es.size ∧ rest = List.range' i (es.size - i) ∧ ∀ j p, j < i → xa[j]? = some p → hitT xb p = true) _ ?_ ?_ _ _ ⟨rfl, rfl, 0, Nat.zero_le _, by simp, fun j p z => absurd z (Nat.not_lt_zero j)⟩
    · intro x rest q z hz
      obtain ⟨e1, e2, i, hi, hr, hpre⟩ := hz
      subst e1 e2
      have hlt : i < es.size := Nat.lt_of_not_le fun c => by rw [Nat.sub_eq_zero_of_le c] at hr; cases hr
      rw [show es.size - i = es.size - (i + 1) + 1 by omega, List.range'_succ] at hr
      obtain ⟨e3, hrest⟩ := List.cons.inj hr
      subst e3
      obtain ⟨⟨k, c, v⟩, hx⟩ : ∃ p, xa[x]? = some p := ⟨xa[x]'(by omega), List.getElem?_eq_getElem (by omega)⟩
      have hex : es[x]? = some ⟨(tupleKind (mixKind prog w)).hash k, .ref c, v⟩ := by rw [entry_at hea x, hx]; rfl
      have hkc := hka _ (List.mem_of_getElem? hx)
      obtain ⟨n, t, hv⟩ := ia _ (List.mem_of_getElem? hx)
      have hv : v = .int n t := hv
      subst hv
      refine wpAny_bind (wpAny_dictEntries hoa hda ?_)
      rw [hex]
      show wpAny _ _ (holding [Value.ref c, Value.int n t] _ >>= _) _ _ _
      refine wpAny_bind (wpAny_holding (wpAny_bind (wpAny_dictFind_heap (k := k) hu hkc hob hdb heb hkb hnb (fun hno => ?_) fun j p hj => ?_)))
      · have hm : hitT xb (k, c, .int n t) = false := by
          unfold hitT
          rw [show atKey xb k = none from atKey_none_of_get hno]
        refine wpAny_pure ?_
        show wpAny _ _ (if (!false) = true then _ else _) _ _ _
        rw [if_pos (by decide)]
        refine wpAny_pure (wpAny_pure ?_)
        have : xa.all (hitT xb) = false := List.all_eq_false.mpr ⟨_, List.mem_of_getElem? hx, by rw [hm]; exact Bool.false_ne_true⟩
        rw [this] at h
        exact h
      · obtain ⟨cb, vb⟩ := p
        have hat : atKey xb k = some (cb, vb) := atKey_of_get hnb hj
        obtain ⟨m, u, hvb⟩ := atKey_int ib hat
        have hvb : vb = .int m u := hvb
        subst hvb
        have hm : hitT xb (k, c, .int n t) = decide (n = m) := by
          unfold hitT
          rw [show atKey xb (k, c, Value.int n t).1 = some (cb, .int m u) from hat]
          rfl
        refine wpAny_bind (wpAny_dictEntries hob hdb ?_)
        rw [entry_at heb j, hj]
        show wpAny _ _ (holding [Value.int m u] _) _ _ _
        refine wpAny_holding ((SeqAt.EqAt.int_int (A := A) (s := z) n t m u).eqP _ _ ?_)
        by_cases hnm : n = m
        · have e4 : (n == m) = true := by rw [hnm]; simp
          first | rw [e4] | (rw [decide_eq_true hnm]) | skip
          show wpAny _ _ (if (!true) = true then _ else _) _ _ _
          rw [if_neg (by decide)]
          refine wpAny_bind (wpAny_dictEpoch hoa hda ?_)
          rw [if_neg (by simp)]
          refine wpAny_pure ⟨rfl, rfl, x + 1, hlt, hrest, fun j' p' hj' hp' => ?_⟩
          by_cases ej : j' = x
          · subst ej
            rw [hx] at hp'
            cases hp'
            rw [hm, decide_eq_true hnm]
          · exact hpre j' p' (by omega) hp'
        · have e4 : (n == m) = false := beq_eq_false_iff_ne.mpr hnm
          first | rw [e4] | (rw [decide_eq_false hnm]) | skip
          show wpAny _ _ (if (!false) = true then _ else _) _ _ _
          rw [if_pos (by decide)]
          refine wpAny_pure (wpAny_pure ?_)
          have : xa.all (hitT xb) = false := List.all_eq_false.mpr ⟨_, List.mem_of_getElem? hx, by rw [hm, decide_eq_false hnm]; exact Bool.false_ne_true⟩
          rw [this] at h
          exact h
    · intro q z hz
      obtain ⟨e1, e2, i, hi, hr, hpre⟩ := hz
      subst e1 e2
      have hin : es.size ≤ i := Nat.le_of_not_lt fun c => by
        rw [show es.size - i = es.size - (i + 1) + 1 by omega, List.range'_succ] at hr
        cases hr
      refine wpAny_pure ?_
      have : xa.all (hitT xb) = true := List.all_eq_true.mpr fun p hp => by
        obtain ⟨j, hj, e⟩ := List.getElem_of_mem hp
        exact hpre j p (by omega) (by rw [List.getElem?_eq_getElem hj, e])
      rw [this] at h
      exact h
  · rw [if_pos (by simpa using hsz)]
    have hbf : (xa.length == xb.length) = false := by
      rw [← la, ← lb]
      simpa using hsz
    rw [hbf, Bool.false_and] at h
    exact wpAny_bind (wpAny_rule (wpAny_pure h))
end
end Vl

namespace Vl
open PySem PySem.Calls PyProof.Rows PyProof.V PySem.Spec L2
/-- as resT, by abstract values -/
def eqVT (ws us : List (List Key × V)) : Bool := ws.length == us.length && ws.all fun p => match valV us p.1, p.2 with
  | some (.int m), .int n => decide (n = m)
  | _, _ => false
def IntV (ws : List (List Key × V)) : Prop := ∀ p ∈ ws, ∃ i, p.2 = V.int i
theorem valV_mem {κ : Type} [DecidableEq κ] {k : κ} {v : V} : ∀ {ws : List (κ × V)}, valV ws k = some v → (k, v) ∈ ws
  | [], h => by cases h
  | p :: r, h => by
    by_cases c : p.1 = k
    · rw [valV_pos c] at h
      cases h
      subst c
      exact List.mem_cons_self
    · rw [valV_neg c] at h
      exact List.mem_cons_of_mem _ (valV_mem h)
theorem intsT_of {H : Hp} {ws : List (List Key × V)} {xa : List ET} (r : KT H ws xa) (h : IntV ws) : IntsT xa := by
  induction r with
  | nil => exact fun p hp => nomatch hp
  | @cons p q ps qs hq t ih =>
    intro x hx
    rcases List.mem_cons.mp hx with rfl | hx
    · obtain ⟨i, e⟩ := h p List.mem_cons_self
      obtain ⟨_, _, rv⟩ := hq
      rw [e] at rv
      obtain ⟨tk, e2⟩ := rv
      exact ⟨i, tk, e2⟩
    · exact ih (fun p hp => h p (List.mem_cons_of_mem _ hp)) x hx
theorem res_eq {H : Hp} {us : List (List Key × V)} {xb : List ET} (rb : KT H us xb) (hb : IntV us) {ws : List (List Key × V)} {xa : List ET} (ra : KT H ws xa) (ha : IntV ws) : resT xa xb = eqVT ws us := by
  have l1 : ws.length = xa.length := Paired.length ra
  have l2 : us.length = xb.length := Paired.length rb
  unfold resT eqVT
  rw [l1, l2]
  congr 1
  clear l1 l2
  induction ra with
  | nil => rfl
  | @cons p q ps qs hq t ih =>
    rw [List.all_cons, List.all_cons, ih fun p hp => ha p (List.mem_cons_of_mem _ hp)]
    congr 1
    obtain ⟨i, e⟩ := ha p List.mem_cons_self
    obtain ⟨h1, _, rv⟩ := hq
    rw [e] at rv
    obtain ⟨tk, e2⟩ := rv
    have kv := rb.val p.1
    unfold hitT
    rw [← h1, e, e2]
    cases c : valV us p.1 with
    | none =>
      rw [c] at kv
      cases c2 : atKey xb p.1 with
      | none => rfl
      | some z => rw [c2] at kv; exact kv.elim
    | some v =>
      obtain ⟨j, ej⟩ := hb _ (valV_mem c)
      have ej : v = V.int j := ej
      subst ej
      rw [c] at kv
      cases c2 : atKey xb p.1 with
      | none => rw [c2] at kv; exact kv.elim
      | some z =>
        rw [c2] at kv
        obtain ⟨u, eu⟩ : ∃ u, z.2 = Value.int j u := kv
        show decide (ivT (.int i tk) = ivT z.2) = decide (i = j)
        rw [eu]
        rfl
def rCmpT (neg : Bool) : R2 := fun x y H Q => ∃ a b ws us, x = .ref a ∧ y = .ref b ∧ Rd H a (.dT ws) ∧ Rd H b (.dT us) ∧ IntV ws ∧ IntV us ∧ Q (.bl (eqVT ws us != neg)) H
section
variable {X : Cx}
theorem op_eqT (hu : X.A.units + 64 < cLine) : OpR X (compareOp .Eq) (rCmpT false) := fun pins s σ H x y v u Q I rx ry h => by
  obtain ⟨a, b, ws, us, rfl, rfl, ea, eb, ia, ib, q⟩ := h
  obtain rfl : v = Value.ref a := rx
  obtain rfl : u = Value.ref b := ry
  obtain ⟨_, ya, xa, ra, da⟩ := dt_rd I.hok ea
  obtain ⟨_, yb, xb, rb, db⟩ := dt_rd I.hok eb
  refine wpAny_richCompare_same_room (op := .Eq) da.typeIs db.typeIs PySem.F.slot_dict_eq (wpAny_call_entry PySem.F.slot_dict_eq da.typeIs PySem.F.entry_dict_eq ?_ (PySem.F.args_dict_eq_2 _ _)) (by omega)
  show wpAny _ _ (Builtin.Dict.dictSlotArgs "__eq__" ⟨[.ref a, .ref b], []⟩ >>= _) _ _ s
  refine wpAny_bind ?_
  unfold Builtin.Dict.dictSlotArgs
  refine wpAny_bind (wpAny_notOrdered_dict da.typeIs ?_)
  show wpAny _ _ (pure (Value.ref a, Value.ref b)) _ _ s
  refine wpAny_pure (wpAny_bind (wpAny_isInstance (T := "dict") db.typeIs PySem.F.sub_dict_dict ?_))
  simp only [Bool.not_true, Bool.false_eq_true, if_false]
  refine wpAny_bind (wpAny_pure (wpAny_bind (wpAny_pure (wpAny_bind (sameT (by show X.A.units + 1 < cLine; omega) ya yb da db (intsT_of ra ia) (intsT_of rb ib) ?_)))))
  rw [res_eq rb ib ra ia]
  refine wpAny_pure ⟨_, rfl, (fun x => nomatch x), ?_⟩
  refine ⟨.bl (eqVT ws us != false), H, I, ?_, q⟩
  show Value.bool (eqVT ws us == true) = Value.bool (eqVT ws us != false)
  cases eqVT ws us <;> rfl
theorem op_neT (hu : X.A.units + 64 < cLine) : OpR X (compareOp .NotEq) (rCmpT true) := fun pins s σ H x y v u Q I rx ry h => by
  obtain ⟨a, b, ws, us, rfl, rfl, ea, eb, ia, ib, q⟩ := h
  obtain rfl : v = Value.ref a := rx
  obtain rfl : u = Value.ref b := ry
  obtain ⟨_, ya, xa, ra, da⟩ := dt_rd I.hok ea
  obtain ⟨_, yb, xb, rb, db⟩ := dt_rd I.hok eb
  refine wpAny_richCompare_same_room (op := .NotEq) da.typeIs db.typeIs PySem.F.slot_dict_ne (wpAny_call_entry PySem.F.slot_dict_ne da.typeIs PySem.F.entry_dict_ne ?_ (PySem.F.args_dict_ne_2 _ _)) (by omega)
  show wpAny _ _ (Builtin.Dict.dictSlotArgs "__ne__" ⟨[.ref a, .ref b], []⟩ >>= _) _ _ s
  refine wpAny_bind ?_
  unfold Builtin.Dict.dictSlotArgs
  refine wpAny_bind (wpAny_notOrdered_dict da.typeIs ?_)
  show wpAny _ _ (pure (Value.ref a, Value.ref b)) _ _ s
  refine wpAny_pure (wpAny_bind (wpAny_isInstance (T := "dict") db.typeIs PySem.F.sub_dict_dict ?_))
  simp only [Bool.not_true, Bool.false_eq_true, if_false]
  refine wpAny_bind (wpAny_pure (wpAny_bind (wpAny_pure (wpAny_bind (sameT (by show X.A.units + 1 < cLine; omega) ya yb da db (intsT_of ra ia) (intsT_of rb ib) ?_)))))
  rw [res_eq rb ib ra ia]
  refine wpAny_pure ⟨_, rfl, (fun x => nomatch x), ?_⟩
  refine ⟨.bl (eqVT ws us != true), H, I, ?_, q⟩
  show Value.bool (eqVT ws us == false) = Value.bool (eqVT ws us != true)
  cases eqVT ws us <;> rfl
end
/-! by data -/
def intD : D → Bool
  | .int _ => true
  | _ => false
def eqPD (a b : List (D × D)) : Bool := a.length == b.length && a.all fun p => match lookD b p.1, p.2 with
  | some (.int m), .int n => decide (n = m)
  | _, _ => false
def gCmpT (neg : Bool) (d e : D) : Option D := match d, e with
  | .dct _ true a, .dct _ true b => if (a.all (fun p => intD p.2) && b.all fun p => intD p.2) = true then some (.bl (eqPD a b != neg)) else none
  | _, _ => none
section
variable {K : PySem.W.Frag} {Z : Addr → Prop} {H : Hp}
theorem DRel.ints : ∀ {a : List (D × D)} {ws : List (List Key × V)} {F : List Addr}, DRel K Z H encT a ws F → a.all (fun p => intD p.2) = true → IntV ws
  | [], ws, F, r, _ => by rw [r.nil_]; exact fun p hp => nomatch hp
  | p :: a, ws, F, r, h => by
    obtain ⟨q, qs, F1, F2, rfl, k1, _, r1, r2⟩ := r.uncons
    rw [List.all_cons, Bool.and_eq_true] at h
    intro x hx
    rcases List.mem_cons.mp hx with rfl | hx
    · have h1 := h.1
      generalize hv : x.2 = v at r1
      cases hp : p.2 with
      | int i =>
        rw [hp] at r1
        exact ⟨i, r1.int_inv⟩
      | _ => rw [hp] at h1; cases h1
    · exact DRel.ints r2 h.2 x hx
theorem eqPD_of {b : List (D × D)} {us : List (List Key × V)} {G : List Addr} (rb : DRel K Z H encT b us G) (ib : b.all (fun p => intD p.2) = true) : ∀ {a : List (D × D)} {ws : List (List Key × V)} {F : List Addr}, DRel K Z H encT a ws F → a.all (fun p => intD p.2) = true →
    (a.all fun p => match lookD b p.1, p.2 with | some (.int m), .int n => decide (n = m) | _, _ => false) = ws.all fun p => match valV us p.1, p.2 with | some (.int m), .int n => decide (n = m) | _, _ => false
  | [], ws, F, r, _ => by rw [r.nil_]; rfl
  | p :: a, ws, F, r, h => by
    obtain ⟨q, qs, F1, F2, rfl, k1, _, r1, r2⟩ := r.uncons
    rw [List.all_cons, Bool.and_eq_true] at h
    rw [List.all_cons, List.all_cons, eqPD_of rb ib r2 h.2]
    congr 1
    cases hp : p.2 with
    | int i =>
      rw [hp] at r1
      rw [r1.int_inv, k1]
      obtain ⟨l1, l2⟩ := rb.look kEq_encT q.1
      cases c : lookD b (encT q.1) with
      | none => rw [l2 c]
      | some d =>
        obtain ⟨v, G', z1, z2, _⟩ := l1 d c
        have hd : intD d = true := by
          have : ∀ {b : List (D × D)}, b.all (fun p => intD p.2) = true → ∀ {k d : D}, lookD b k = some d → intD d = true := by
            intro b
            induction b with
            | nil => intro _ k d e; cases e
            | cons x xs ih =>
              intro hb k d e
              rw [List.all_cons, Bool.and_eq_true] at hb
              unfold lookD at e
              split at e
              · cases e; exact hb.1
              · exact ih hb.2 e
          exact this ib c
        cases d with
        | int m => rw [z1, z2.int_inv]
        | _ => cases hd
    | _ => have h1 := h.1; rw [hp] at h1; cases h1
theorem os_cmpT (neg : Bool) : OpS K (rCmpT neg) (gCmpT neg) := OpS.here fun Z H d1 d2 v1 v2 F1 F2 d Q r1 r2 hg q => by
  unfold gCmpT at hg
  split at hg
  · rename_i o1 a o2 b
    split at hg
    · rename_i hi
      cases hg
      rw [Bool.and_eq_true] at hi
      obtain ⟨p, ws, G, rfl, hr, dr, _⟩ := r1.dctT_rd
      obtain ⟨p2, us, G2, rfl, hr2, dr2, _⟩ := r2.dctT_rd
      have l1 : a.length = ws.length := by have := congrArg List.length dr.ks; simpa using this
      have l2 : b.length = us.length := by have := congrArg List.length dr2.ks; simpa using this
      refine ⟨p, p2, ws, us, rfl, rfl, hr, hr2, dr.ints hi.1, dr2.ints hi.2, ?_⟩
      have e : eqPD a b = eqVT ws us := by
        unfold eqPD eqVT
        rw [l1, l2, eqPD_of dr2 hi.2 dr hi.1]
      rw [← e]
      exact q _ (.bl _)
    · cases hg
  · cases hg
end
end Vl

namespace Vl
open PySem PySem.Calls PyProof.Rows PyProof.V PySem.Spec L2
/-! ### for k, v in d.items(): d a dict with tuple keys -/
def Itit (d : Addr) (o : Obj) (kvs : List (List Key × V)) : It :=
  ⟨fun i H => H d = some (.frz o (.dT kvs)) ∧ i < kvs.length, fun i H x H' => ∃ T q k v, kvs[i]? = some (k, v) ∧ x = .ref T ∧ H T = none ∧ H q = some (.tup (k.map kV)) ∧ H' = upd H T (.tup [.ref q, v]), fun i H => H d = some (.frz o (.dT kvs)) ∧ kvs.length ≤ i⟩
theorem frzT2 {X : Cx} {pins : List (Addr × Obj)} {σ : L2.St} {H : Hp} {s : Shared} {d : Addr} {o : Obj} {kvs : List (List Key × V)} (I : Inv X pins σ H s) (h : H d = some (.frz o (.dT kvs))) :
    (d == sysModules) = false ∧ s.heap.get? d = some o ∧ o.ExactDict ∧ ∃ (es : Array DictEntry) (ep : Nat), o.data = .dict es ep ∧ es.size = kvs.length ∧
      ∀ (i : Nat) (k : List Key) (v : V), kvs[i]? = some (k, v) → ∃ (en : DictEntry) (q : Addr), es[i]? = some en ∧ en.key = .ref q ∧ H q = some (.tup (k.map kV)) ∧ RelV v en.val := by
  obtain ⟨hd, z, hs, xs, pr, o', es, ep, ho, hx, hdt, he, _⟩ := I.hok d _ h
  rw [hd] at ho
  cases ho
  refine ⟨hs, hd, hx, es, ep, hdt, ?_, fun i k v e => ?_⟩
  · rw [size_of_entries he]
    exact (Paired.length pr).symm
  · obtain ⟨b, hb, e1, e2, e3⟩ := paired_get pr e
    have q := entry_at he i
    rw [hb] at q
    exact ⟨_, b.2.1, q, rfl, e2, e3⟩
section
variable {P : Program} {w : World} {K : PySem.W.Frag} {d : Addr} {o : Obj} {es : Array DictEntry} {ep : Nat}
theorem turn_itemsT {kvs : List (List Key × V)} {elts : List Expr} {kk : Nat} {tpos : Pos} (it : Addr) (hod : o.data = .dict es ep) :
    Turn P w K (.Tuple elts kk tpos) (Itit d o kvs) [it] it (fun i h => ∃ ok ov, IsItemIter h it d i kvs.length ep ok ov) where
  mem := by simp
  obj := fun i h st b hb => by
    have e : b = it := by simpa using hb
    subst e
    obtain ⟨ok, ov, e⟩ := st
    exact ⟨_, e, fun v z => nomatch z⟩
  keep := fun i h h' st k => let ⟨ok, ov, e⟩ := st; ⟨ok, ov, k it (by simp) _ e⟩
  item := by
    intro X hP hw hK hc i pins s σ H E I hf st hg
    subst hP hw hK
    obtain ⟨hd, hi⟩ := hg
    obtain ⟨hs, hgd, hx, es', ep', hdt, hsz, ent⟩ := frzT2 I hd
    obtain ⟨rfl, rfl⟩ := dict_ep hod hdt
    obtain ⟨⟨k, v⟩, hkv⟩ : ∃ p, kvs[i]? = some p := ⟨kvs[i], List.getElem?_eq_getElem hi⟩
    obtain ⟨en, q, hen, hkey, hq, hval⟩ := ent i k v hkv
    have hie : i < es'.size := by omega
    have een : es'[i] = en := by rw [Array.getElem?_eq_getElem hie] at hen; exact Option.some.inj hen
    obtain ⟨ok, ov, he⟩ := st
    rw [← hsz] at he
    have hlt : it < s.heap.objs.size := Heap.lt_size he
    have hr : DT.Raw s.heap d es' ep' := ⟨o, hgd, hx, hod⟩
    refine DT.nextI he hr hie fun h' ho hT hz hk => ?_
    rw [een] at ho hT
    refine ⟨_, rfl, wpAny_letOwnedTupleGo_items (s := { s with heap := h' }) ho fun h'' he' sb => ?_⟩
    have hT2 : h''.get? s.heap.objs.size = some { cls := .type "tuple", data := .seq #[en.key, en.val] } := (sb.2 _ (Nat.ne_of_gt hlt)).trans hT
    have new : ObjOk X.prog X.w (upd H s.heap.objs.size (.tup [.ref q, v])) h'' s.heap.objs.size (.tup [.ref q, v]) :=
      ⟨by show 2 ≤ sizeLine; decide, [en.key, en.val], .cons hkey (.cons hval .nil), ⟨_, hT2, rfl, _, rfl⟩⟩
    have I1 : Inv X pins σ (upd H s.heap.objs.size (.tup [.ref q, v])) { s with heap := h'' } :=
      I.turnedNew (t' := s.toks) (ch := [it]) (fun b ob hb e => (sb.2 b (by simpa using hb)).trans (hk b ob (by simpa using hb) e)) hf (Nat.le_refl _) new
    refine ⟨.ref s.heap.objs.size, _, I1, rfl, ⟨_, q, k, v, hkv, rfl, I.hok.fresh (Nat.le_refl _), hq, rfl⟩, ⟨en.key, en.val, ?_⟩, fun b hb => ?_⟩
    · rw [← hsz]; exact he'
    · have e : b = it := by simpa using hb
      rw [e, upd_ne (Nat.ne_of_lt hlt)]
      exact (hf it (by simp)).1
  done := by
    intro X hP hw hK hc i pins s σ H E I hf st hg
    subst hP hw hK
    obtain ⟨hd, hi⟩ := hg
    obtain ⟨f0, f1, f2, f3, f4, f5⟩ := hf it (by simp)
    obtain ⟨hs, hgd, hx, es', ep', hdt, hsz, ent⟩ := frzT2 I hd
    obtain ⟨rfl, rfl⟩ := dict_ep hod hdt
    obtain ⟨ok, ov, he⟩ := st
    rw [← hsz] at he
    exact DT.endI (I.ok.hd hc) he ⟨o, hgd, hx, hod⟩ (by omega) fun h' eb => ⟨rfl, I.turned (t' := s.toks) (fun b o hb e => eb b o hb e) f0 f1 f3 f4 f5⟩
  self := fun A i s Q E st h => let ⟨_, _, e⟩ := st; PySem.W.kcp_self e h
end
/-- the dict is locked from here on -/
def iItemsT (td : TE) : TI := fun σ H R => td σ H fun x H1 => ∃ d kvs, x = .ref d ∧ H1 d = some (.dT kvs) ∧ ∀ od, R (Itit d od kvs) (upd H1 d (.frz od (.dT kvs)))
section
variable {X : Cx} {tg e : Expr} {td : TE} {apos cpos : Pos}
theorem pi_itemsT {elts : List Expr} {kk : Nat} {tpos : Pos} (he : PE X e td) (hbase : attributeBase e "items" X.env (eval e X.env) = eval e X.env := by rfl) (hline : (apos.endLine == cpos.line) = true := by rfl) :
    PI X (.Tuple elts kk tpos) (.Call (.Attribute e "items" apos) [] [] cpos) (iItemsT td) := by
  refine ⟨fun pins s σ H R I h => ?_⟩
  refine wpAny_Call_method (T := "dict") (id := "dict.items") hbase rfl hline F.plainAttrs_dict F.slot_dict_items F.type_dict_items (thn (he.run pins s σ H _ I h) fun u s1 ⟨x, H0, I0, rx, d, kvs, ex, hd0, q⟩ => ?_)
  subst ex
  obtain rfl : u = Value.ref d := rx
  obtain ⟨od, I1⟩ := I0.lock hd0 trivial
  obtain ⟨hs, hgd, hx, es, ep, hdt, hsz, ent⟩ := frzT2 I1 upd_same
  have hr : DT.Raw s1.heap d es ep := ⟨od, hgd, hx, hdt⟩
  refine ⟨hr.typeIs, fun b e => ?_, ?_⟩
  · cases e
    exact ⟨od, hgd, hx.2.1⟩
  have I2 : Inv X pins σ (upd H0 d (.frz od (.dT kvs))) { s1 with heap := s1.heap.push { cls := .type "dict_items", data := .fields #[.ref d] } } := I1.kept (t' := s1.toks) fun b ob q => Heap.get?_push_of_some _ q
  have fin : wpAny (model X.prog X.w) X.A (pyIter (.ref s1.heap.objs.size)) (PIE X pins σ (.Tuple elts kk tpos) R) X.xe { s1 with heap := s1.heap.push { cls := .type "dict_items", data := .fields #[.ref d] } } := by
    refine DT.iterI (d := d) (es := es) (ep := ep) ⟨_, Heap.get?_push_size _ rfl, rfl, rfl⟩ (hr.push _) (pi_one (tk := s1.toks) I2 _ (turn_itemsT _ hdt) ⟨.none, .none, ?_⟩ (q od))
    rw [← hsz]
    exact Heap.get?_push_size _ rfl
  show wpAny _ _ (callWith cpos (.builtin "dict.items") [.ref d] [] []) _ X.xe s1
  exact method_meetsIn F.slot_dict_items F.entry_dict_items rfl (PySem.evalArgs_none ⟨rfl, hr.typeIs, F.args_dict_items_1 _, _, DT.meetsItems (es := es) (ep := ep) hs, hr, fin⟩)
end
def iItT (f : M D) : M (List D) := fun ρ => (f ρ).bind fun p => match p.1 with
  | .dct true true kvs => if D.noOwnP kvs = true then some (kvs.map fun q => .tup [q.1, q.2], p.2) else none
  | _ => none
theorem walk_itemsT {d : Addr} {o : Obj} {kvs : List (List Key × V)} : Walk (Itit d o kvs) kvs.length (fun H => H d = some (.frz o (.dT kvs))) (fun i H x H' => ∃ T q k v, kvs[i]? = some (k, v) ∧ x = .ref T ∧ H T = none ∧ H q = some (.tup (k.map kV)) ∧ H' = upd H T (.tup [.ref q, v])) :=
  ⟨fun i _ hi q => ⟨q, hi⟩, fun _ q => ⟨q, Nat.le_refl _⟩, fun _ _ _ _ _ _ y => y⟩
section
variable {X : Cx} {T : List Nat} {e : Expr} {f : M D} {apos cpos : Pos}
theorem piv_itemsT {elts : List Expr} {kk : Nat} {tpos : Pos} (he : PEV X T [] true e f) (hbase : attributeBase e "items" X.env (eval e X.env) = eval e X.env := by rfl) (hline : (apos.endLine == cpos.line) = true := by rfl) :
    PIV X T [] (.Tuple elts kk tpos) (.Call (.Attribute e "items" apos) [] [] cpos) (iItT f) := by
  refine PI.imp (pi_itemsT he hbase hline) fun σ H Rk h => ?_
  obtain ⟨Z, ρ, Fs, items, ρ', rel, hf, q⟩ := h
  unfold iItT at hf
  obtain ⟨⟨d1, ρ1⟩, h1, hf⟩ := Option.bind_eq_some_iff.mp hf
  simp only at hf
  split at hf
  · rename_i kvs
    split at hf
    · rename_i hn
      cases hf
      refine ⟨Z, ρ, Fs, _, _, rel, h1, fun v H' Z' Fs' F rel' f' w c => ?_⟩
      obtain ⟨a, ws, G, rfl, rfl, ha, dr⟩ := w.r.dctT_ow
      have e0 : G = [] := dr.rs.no (by rw [← noOwnP_eq]; exact hn)
      subst e0
      refine ⟨a, ws, rfl, ha, fun od => ?_⟩
      have hnj : ∀ j, a ∉ Fs' j := fun j hj => absurd (w.ori j a List.mem_cons_self hj) (by simp)
      have hnz : ¬ Z' a := (w.exc rfl).2 a List.mem_cons_self
      have ca := c rfl a List.mem_cons_self
      have rel2 := rel'.lock (od := od) (show IsDc (.dT ws) from trivial) ha hnj
      have frm2 : Frm T Z ρ Fs H Z' ρ' Fs' (upd H' a (.frz od (.dT ws))) := by
        refine ⟨f'.sub, ⟨fun b o hb n => ?_, fun b xs hb => ?_, fun b o u hb => ?_, fun b hb => ?_⟩, f'.c1, f'.c3, f'.zz, f'.len⟩
        · by_cases eb : b = a
          · subst eb
            rcases ca with z | z
            · exact absurd z n
            · rw [hb] at z; cases z
          · rw [upd_ne eb]; exact f'.keep.out b o hb n
        · have h2 := f'.keep.tup b xs hb
          rw [upd_ne (fun eb => by subst eb; rw [ha] at h2; cases h2)]
          exact h2
        · have h2 := f'.keep.frz b o u hb
          rw [upd_ne (fun eb => by subst eb; rw [ha] at h2; cases h2)]
          exact h2
        · by_cases eb : b = a
          · subst eb; rw [upd_same]; intro z; cases z
          · rw [upd_ne eb]; exact f'.keep.dom b hb
      have wk := walk_itemsT (d := a) (o := od) (kvs := ws)
      have hl : ws.length = (kvs.map fun q => D.tup [q.1, q.2]).length := by
        have := congrArg List.length dr.ks
        rw [List.length_map, List.length_map] at this
        rw [List.length_map, this]
      rw [hl] at wk
      have rs2 : Rs X.K Z' (upd H' a (.frz od (.dT ws))) (kvs.map (·.2)) (ws.map (·.2)) [] := Rs.lock (show IsDc (.dT ws) from trivial) ha dr.rs (by simp)
      refine q _ _ Z' Fs' [] _ _ rel2 frm2 wk (fun _ _ h => (by cases h)) fun M Z2 H2 k hA hZ zz => ⟨k.frz _ _ _ upd_same, fun j x h' d' hy hi => ?_⟩
      obtain ⟨T0, b, ks, v, h3, rfl, hT, hb, rfl⟩ := hy
      have k1 : Keep M0 H2 (upd H2 T0 (.tup [.ref b, v])) := Keep.new hT
      refine ⟨k1, ?_⟩
      rw [List.getElem?_map] at hi
      obtain ⟨p, hp, rfl⟩ := Option.map_eq_some_iff.mp hi
      have hkj : p.1 = encT ks := by
        have := congrArg (fun l => l[j]?) dr.ks
        simp only [List.getElem?_map, hp, h3, Option.map_some] at this
        exact Option.some.inj this
      have rs3 := rs2.keep k zz hZ (fun _ h => (by cases h))
      obtain ⟨v', G', g1, g2, g3⟩ := rs3.get (i := j) (d := p.2) (by rw [List.getElem?_map, hp]; rfl)
      rw [List.getElem?_map, h3] at g1
      have ev : v = v' := Option.some.inj g1
      subst ev
      have eG : G' = [] := by
        cases G' with
        | nil => rfl
        | cons z r => exact absurd (g3 z List.mem_cons_self) (by simp)
      subst eG
      refine .tup upd_same (.cons0 ?_ (.cons0 (g2.keep0 k1) .nil))
      rw [hkj]
      exact R.tup (by rw [upd_ne (ne_of_none hb hT)]; exact hb) (rs_keyss ks)
    · cases hf
  · cases hf
end
end Vl

namespace Vl
open PySem PySem.Spec PyProof.Rows L2
/-! ### name[i][j] op= e : a list of lists, all owned -/
section
variable {K : PySem.W.Frag} {Z : Addr → Prop} {H H' : Hp}
theorem Rs.split : ∀ {j : Nat} {ds : List D} {vs : List V} {F : List Addr} {d : D}, Rs K Z H ds vs F → ds[j]? = some d →
    ∃ p q vp vq v F1 G F2, ds = p ++ d :: q ∧ vs = vp ++ v :: vq ∧ p.length = j ∧ vp.length = j ∧ F = F1 ++ (G ++ F2) ∧ Rs K Z H p vp F1 ∧ R K Z H d v G ∧ Rs K Z H q vq F2
  | _, [], _, _, _, _, e => by simp at e
  | 0, x :: ds, vs, F, d, r, e => by
    obtain ⟨v, ws, F1, F2, rfl, rfl, r1, r2⟩ := r.uncons
    have e : x = d := by simpa using e
    subst e
    exact ⟨[], ds, [], ws, v, [], F1, F2, rfl, rfl, rfl, rfl, rfl, .nil, r1, r2⟩
  | j + 1, x :: ds, vs, F, d, r, e => by
    obtain ⟨v, ws, F1, F2, rfl, rfl, r1, r2⟩ := r.uncons
    obtain ⟨p, q, vp, vq, u, G1, G, G2, h1, h2, h3, h4, h5, h6, h7, h8⟩ := Rs.split (j := j) (d := d) r2 (by simpa using e)
    subst h1 h2 h5
    exact ⟨x :: p, q, v :: vp, vq, u, F1 ++ G1, G, G2, rfl, rfl, by rw [List.length_cons, h3], by rw [List.length_cons, h4], by rw [List.append_assoc], .cons r1 h6, h7, h8⟩
structure Nest (K : PySem.W.Frag) (Z : Addr → Prop) (H : Hp) (l m : List D) (j : Nat) (v0 : V) (F0 : List Addr) (a b : Addr) (vs ws : List V) : Prop where
  ex : ∃ p q vp vq F1 F2, l = p ++ .lst true m :: q ∧ vs = vp ++ V.ref b :: vq ∧ p.length = j ∧ vp.length = j ∧ F0 = a :: (F1 ++ (b :: F2)) ∧ Rs K Z H p vp F1 ∧ Rs K Z H q vq F2
  v : v0 = .ref a
  ha : H a = some (.lst vs)
  hb : H b = some (.lst ws)
  rm : Rs K Z H m ws []
theorem nest_at {l m : List D} {j : Nat} {v0 : V} {F0 : List Addr} (r : R K Z H (.lst true l) v0 F0) (hj : l[j]? = some (.lst true m)) (hm : D.noOwnL m = true) : ∃ a b vs ws, Nest K Z H l m j v0 F0 a b vs ws := by
  obtain ⟨a, vs, G, rfl, rfl, ha, rs⟩ := r.own_inv
  obtain ⟨p, q, vp, vq, v, F1, G1, F2, h1, h2, h3, h4, h5, h6, h7, h8⟩ := rs.split hj
  obtain ⟨b, ws, G2, rfl, rfl, hb, rm⟩ := h7.own_inv
  have e := rm.no hm
  subst e
  exact ⟨a, b, vs, ws, ⟨p, q, vp, vq, F1, F2, h1, h2, h3, h4, by rw [h5]; rfl, h6, h8⟩, rfl, ha, hb, rm⟩
theorem Nest.at {l m : List D} {j : Nat} {v0 : V} {F0 : List Addr} {a b : Addr} {vs ws : List V} (n : Nest K Z H l m j v0 F0 a b vs ws) : vs[j]? = some (.ref b) := by
  obtain ⟨p, q, vp, vq, F1, F2, h1, h2, h3, h4, _⟩ := n.ex
  rw [h2, ← h4]
  simp
theorem Nest.len {l m : List D} {j : Nat} {v0 : V} {F0 : List Addr} {a b : Addr} {vs ws : List V} (n : Nest K Z H l m j v0 F0 a b vs ws) : l.length = vs.length := by
  obtain ⟨p, q, vp, vq, F1, F2, h1, h2, h3, h4, _, h6, h7⟩ := n.ex
  rw [h1, h2, List.length_append, List.length_append, List.length_cons, List.length_cons, h6.length, h7.length]
/-- the same things later -/
theorem Nest.same {Z' : Addr → Prop} {l m : List D} {j : Nat} {v0 : V} {F0 F0' : List Addr} {a b a' b' : Addr} {vs ws vs' ws' : List V} (n : Nest K Z H l m j v0 F0 a b vs ws) (n' : Nest K Z' H' l m j v0 F0' a' b' vs' ws') (k : Keep M0 H H') : a' = a ∧ vs' = vs ∧ b' = b := by
  have e : a' = a := by
    have := n.v.symm.trans n'.v
    injection this with this
    exact this.symm
  subst e
  have h1 := k.out _ _ n.ha id
  rw [n'.ha] at h1
  have e2 : vs' = vs := by injection h1 with h1; injection h1
  subst e2
  have h2 := n.at
  rw [n'.at] at h2
  injection h2 with h2
  injection h2 with h2
  exact ⟨rfl, rfl, h2⟩
theorem set_mid {α : Type} {p q : List α} {x y : α} : (p ++ x :: q).set p.length y = p ++ y :: q := by
  induction p with
  | nil => rfl
  | cons a r ih => rw [List.cons_append, List.length_cons, List.set_cons_succ, ih]; rfl
/-- the inner list written -/
theorem Nest.write {l m : List D} {j j2 : Nat} {v0 : V} {F0 : List Addr} {a b : Addr} {vs ws : List V} (n : Nest K Z H l m j v0 F0 a b vs ws) (nd : F0.Nodup) (nz : ∀ x ∈ F0, ¬ Z x) {z : D} {u : V} (rz : R K Z H z u []) :
    Keep (fun x => x ∈ F0) H (upd H b (.lst (ws.set j2 u))) ∧ R K Z (upd H b (.lst (ws.set j2 u))) (.lst true (l.set j (.lst true (m.set j2 z)))) v0 F0 := by
  obtain ⟨p, q, vp, vq, F1, F2, h1, h2, h3, h4, h5, h6, h7⟩ := n.ex
  have k : Keep (fun x => x = b) H (upd H b (.lst (ws.set j2 u))) := Keep.wr n.hb trivial
  have hbF : b ∈ F0 := by rw [h5]; simp
  refine ⟨k.mono fun x e => by rw [e]; exact hbF, ?_⟩
  have hz : ∀ x, Z x → ¬ x = b := fun x zx e => nz b hbF (by rw [← e]; exact zx)
  rw [h5] at nd
  obtain ⟨n1, n2⟩ := List.nodup_cons.mp nd
  obtain ⟨n3, n4, n5⟩ := List.nodup_append.mp n2
  obtain ⟨n6, n7⟩ := List.nodup_cons.mp n4
  have hab : a ≠ b := fun e => n1 (by rw [e]; simp)
  have f1 : ∀ x ∈ F1, ¬ x = b := fun x hx e => n5 x hx b List.mem_cons_self e
  have f2 : ∀ x ∈ F2, ¬ x = b := fun x hx e => n6 (by rw [← e]; exact hx)
  have rin : R K Z (upd H b (.lst (ws.set j2 u))) (.lst true (m.set j2 z)) (.ref b) [b] := .own upd_same ((Rs.set0 rz j2 n.rm).keep k (fun _ h => h) hz fun _ h => (by cases h))
  have rall : Rs K Z (upd H b (.lst (ws.set j2 u))) (p ++ .lst true (m.set j2 z) :: q) (vp ++ V.ref b :: vq) (F1 ++ ([b] ++ F2)) :=
    (h6.keep k (fun _ h => h) hz f1).app (.cons rin (h7.keep k (fun _ h => h) hz f2))
  rw [n.v, h5, h1, ← h3, set_mid]
  refine .own (by rw [upd_ne hab, n.ha, h2]) rall
end
def gNest (g : D → D → Option D) (o k1 k2 y : D) : Option D := match o, k1, k2 with
  | .lst true l, .int a, .int b => (ixN l.length a).bind fun j => (l[j]?).bind fun d => match d with
    | .lst true m => if D.noOwnL m = true then (L2.atI m b).bind fun z => (g z y).bind fun z' => if z'.noOwn = true then (ixN m.length b).bind fun j2 => some (.lst true (l.set j (.lst true (m.set j2 z')))) else none else none
    | _ => none
  | _, _, _ => none
theorem gNest_inv {g : D → D → Option D} {o k1 k2 y o' : D} (h : gNest g o k1 k2 y = some o') :
    ∃ l n1 n2 j m z z' j2, o = .lst true l ∧ k1 = .int n1 ∧ k2 = .int n2 ∧ ixN l.length n1 = some j ∧ l[j]? = some (.lst true m) ∧ D.noOwnL m = true ∧ L2.atI m n2 = some z ∧ g z y = some z' ∧ z'.noOwn = true ∧ ixN m.length n2 = some j2 ∧ o' = .lst true (l.set j (.lst true (m.set j2 z'))) := by
  unfold gNest at h
  split at h
  · next l n1 n2 =>
    obtain ⟨j, hj, h⟩ := Option.bind_eq_some_iff.mp h
    obtain ⟨dm, hm, h⟩ := Option.bind_eq_some_iff.mp h
    split at h
    · next m =>
      split at h
      · next hno =>
        obtain ⟨z, hz, h⟩ := Option.bind_eq_some_iff.mp h
        obtain ⟨z', hz', h⟩ := Option.bind_eq_some_iff.mp h
        split at h
        · next hnz =>
          obtain ⟨j2, hj2, h⟩ := Option.bind_eq_some_iff.mp h
          injection h with h
          exact ⟨l, n1, n2, j, m, z, z', j2, rfl, rfl, rfl, hj, hm, hno, hz, hz', hnz, hj2, h.symm⟩
        · cases h
      · cases h
    · cases h
  · cases h
def sAugSS (i : Nat) (g : D → D → Option D) (f1 f2 fe : M D) : MS := fun ρ => (Env.at ρ i).bind fun o => (f1 ρ).bind fun p1 => (f2 p1.2).bind fun p2 => (fe p2.2).bind fun p3 => (gNest g o p1.1 p2.1 p3.1).bind fun o' => some (.nx (p3.2.set i (some o')))
section
variable {X : Cx} {O1 O2 O3 : List Nat} {x1 x2 x3 : Bool} {e1 e2 e : Expr} {f1 f2 fe : M D} {npos pos pos1 p2 : Pos} {y : Str}
theorem psv_augSS (i : Nat) {op : Operator} {ti : TIp} {g : D → D → Option D} (hu : X.A.units + 1 < cLine) (ho : PIp X op ti) (hs : OpS X.K ti g) (hi1 : PEV X [] O1 x1 e1 f1) (hi2 : PEV X [] O2 x2 e2 f2) (he : PEV X [] O3 x3 e fe)
    (hp : PlainIx e1 := by intro _ _; rfl) (hN : X.N[i]? = some y := by rfl) (hv : Vis X.env.scope y := by first | exact Or.inl rfl | exact Or.inr (Or.inl rfl) | exact Or.inr (Or.inr rfl)) (hd : (y == ("__debug__" : Str)) = false := by decide) (hcd : (y == ("__classdict__" : Str)) = false := by decide)
    (ha : ∀ ov iv new, augStore e2 ov iv new = (do holding [new, ov, iv] (setItem ov iv new); release [new, ov, iv] []; pure .next) := by intros; rfl) :
    PSV X [] [i] (.AugAssign (.Subscript (.Subscript (.Name y npos) e1 pos1) e2 pos) op e p2) (sAugSS i g f1 f2 fe) := by
  refine PS.imp (ps_augS (pe_ix ix_seq (pe_var hN hv hd hcd) hi1 hp) hi2 (get_all hu) he ho (set_all hu) ha) fun D σ H h => ?_
  obtain ⟨Z, ρ, Fs, r, rel, hf, k1, k2, k3, k4⟩ := h
  unfold sAugSS at hf
  obtain ⟨o, h0, hf⟩ := Option.bind_eq_some_iff.mp hf
  obtain ⟨⟨d1, ρ1⟩, h1, hf⟩ := Option.bind_eq_some_iff.mp hf
  obtain ⟨⟨d2, ρ2⟩, h2, hf⟩ := Option.bind_eq_some_iff.mp hf
  obtain ⟨⟨d3, ρ3⟩, h3, hf⟩ := Option.bind_eq_some_iff.mp hf
  obtain ⟨o', h4, hf⟩ := Option.bind_eq_some_iff.mp hf
  cases hf
  obtain ⟨l, n1, n2, j, m, z, z', j2, eo, e1', e2', hj, hm, hno, hz, hz', hnz, hj2, eo'⟩ := gNest_inv h4
  simp only at e1' e2' hz'
  subst eo e1' e2' eo'
  obtain ⟨v0, hv0, r0⟩ := rel.at_ i _ (Env.at_some h0)
  refine ⟨v0, hv0, Z, ρ, Fs, .int n1, ρ1, rel, h1, fun v1 H1 Z1 Fs1 F1 rel1 fr1 w1 c1 => ?_⟩
  have at1 : ρ1[i]? = some (some (.lst true l)) := ((fr1.sub i (by simp)).2).trans (Env.at_some h0)
  obtain ⟨v0', hv0', r1⟩ := rel1.at_ i _ at1
  rw [hv0] at hv0'
  cases hv0'
  obtain ⟨a, b, vs, ws, N1⟩ := nest_at r1 hm hno
  have hat : L2.atI vs n1 = some (.ref b) := by
    unfold L2.atI
    rw [← N1.len, hj]
    exact N1.at
  refine .inl ⟨a, vs, n1, _, N1.v, w1.r.int_inv, SqL.of N1.ha, hat, ?_⟩
  refine ⟨Z1, ρ1, Fs1, .int n2, ρ2, rel1, h2, fun v2 H2 Z2 Fs2 F2 rel2 fr2 w2 c2 => ?_⟩
  have kk : ∀ {Za Zb : Addr → Prop} {ρa ρb : Env} {Fa Fb : Ft} {Ha Hb : Hp}, Frm [] Za ρa Fa Ha Zb ρb Fb Hb → Keep M0 Ha Hb := fun f => f.keep.mono fun x hx => by
    obtain ⟨j, hj, _⟩ := hx
    cases hj
  have at2 : ρ2[i]? = some (some (.lst true l)) := ((fr2.sub i (by simp)).2).trans at1
  obtain ⟨v0', hv0', r2⟩ := rel2.at_ i _ at2
  rw [hv0] at hv0'
  cases hv0'
  obtain ⟨a', b', vs', ws2, N2⟩ := nest_at r2 hm hno
  obtain ⟨ea, ev, eb⟩ := N1.same N2 (kk fr2)
  subst ea ev eb
  obtain ⟨wz, Gz, g1, g2, g3⟩ := N2.rm.atI hz
  refine .inl ⟨_, ws2, n2, wz, rfl, w2.r.int_inv, SqL.of N2.hb, g1, ?_⟩
  refine ⟨Z2, ρ2, Fs2, d3, ρ3, rel2, h3, fun v3 H3 Z3 Fs3 F3 rel3 fr3 w3 c3 => ?_⟩
  have eG : Gz = [] := by
    cases Gz with
    | nil => rfl
    | cons x r => exact absurd (g3 x List.mem_cons_self) (by simp)
  subst eG
  have gz3 := g2.keep (kk fr3) fr3.zz (fun _ _ h => h) fun _ h => (by cases h)
  refine hs Z3 H3 z d3 wz v3 [] F3 z' _ gz3 w3.r hz' fun vz H4 F4 kz rz ndz cz => ?_
  have e4 := rz.no hnz
  subst e4
  have rel4 := rel3.keep0 kz
  have fr4 := ((fr1.trans fr2).trans fr3).trans (Frm.pureT [] kz)
  have at3 : ρ3[i]? = some (some (.lst true l)) := ((fr3.sub i (by simp)).2).trans at2
  obtain ⟨v0', hv0', r4⟩ := rel4.at_ i _ at3
  rw [hv0] at hv0'
  cases hv0'
  obtain ⟨a', b', vs', ws4, N4⟩ := nest_at r4 hm hno
  obtain ⟨ea, ev, eb⟩ := N2.same N4 ((kk fr3).tr0 kz)
  subst ea ev eb
  have lw : ws4.length = m.length := N4.rm.length.symm
  refine .inl ⟨_, ws4, n2, j2, rfl, w2.r.int_inv, N4.hb, by rw [lw]; exact hj2, ?_⟩
  obtain ⟨kw, rw'⟩ := N4.write (j2 := j2) (rel4.nd i) (fun a ha => rel4.nz i a ha) rz
  obtain ⟨q1, q2, _, _, _⟩ := mut_end (F := []) (F' := []) rel4 fr4 Cf.nil (fun j a h => (by cases h)) (fun a h => (by cases h)) hv0 (Env.lt at3) kw rw' (by rw [List.nil_append]; exact rel4.nd i) (fun a ha => .inl ha)
  exact k1 _ rfl _ _ _ _ ⟨q1, q2, fun _ _ => rfl, rfl⟩
end
/-! ### a def that calls itself: the innermost call is none -/
theorem runF_none {np m n : Nat} {ds : List D} : runF np m n (fun _ => none) ds = none := by
  unfold runF
  split <;> rfl
theorem fnv_none {P : Program} {w : World} {K : PySem.W.Frag} {mg : Str → Option Value} {base : Heap} {k : Nat} {f : Addr} {fd : FuncData} {ps : List Str} {m np m' n : Nat} : FnV P w K mg base k f fd ps m (runF np m' n fun _ => none) :=
  ⟨fun _ _ _ _ ⟨_, _, _, _, _, _, _, _, _, h, _⟩ => (by rw [runF_none] at h; cases h), fun _ _ _ _ _ _ _ _ _ _ _ _ _ ⟨_, _, _, _, _, _, _, _, _, h, _⟩ => (by rw [runF_none] at h; cases h)⟩
end Vl

section
set_option maxHeartbeats 4000000
namespace G09
open PySem PySem.Spec PyProof.Rows L2 Vl
def topS (i : Nat) : Stmt := PySem.Challenge.pw_knotsooth_k09_braids_put_together.main.body.getD i (.Pass ⟨0, 0, 0, 0⟩)
def c_MOST_STRANDS : D := (.int 12)
abbrev sf_straight : Stmt := topS 1
abbrev N_straight : List Str := ["size"]
theorem sc_straight : FnScope N_straight ["size"] (defScope sf_straight) := ⟨rfl, rfl, rfl, by decide +kernel, rfl, by decide +kernel, by decide +kernel⟩
abbrev sf_after : Stmt := topS 2
abbrev N_after : List Str := ["one", "other", "goal"]
theorem sc_after : FnScope N_after ["one", "other"] (defScope sf_after) := ⟨rfl, rfl, rfl, by decide +kernel, rfl, by decide +kernel, by decide +kernel⟩
abbrev sf_swap : Stmt := topS 3
abbrev N_swap : List Str := ["size", "place", "found"]
theorem sc_swap : FnScope N_swap ["size", "place"] (defScope sf_swap) := ⟨rfl, rfl, rfl, by decide +kernel, rfl, by decide +kernel, by decide +kernel⟩
abbrev sf_circles : Stmt := topS 4
abbrev N_circles : List Str := ["one", "found", "seen", "start", "circle", "number"]
theorem sc_circles : FnScope N_circles ["one"] (defScope sf_circles) := ⟨rfl, rfl, rfl, by decide +kernel, rfl, by decide +kernel, by decide +kernel⟩
abbrev sf_is_integer : Stmt := topS 6
abbrev N_is_integer : List Str := ["value"]
theorem sc_is_integer : FnScope N_is_integer ["value"] (defScope sf_is_integer) := ⟨rfl, rfl, rfl, by decide +kernel, rfl, by decide +kernel, by decide +kernel⟩
abbrev sf_is_between : Stmt := topS 7
abbrev N_is_between : List Str := ["value", "least", "most"]
theorem sc_is_between : FnScope N_is_between ["value", "least", "most"] (defScope sf_is_between) := ⟨rfl, rfl, rfl, by decide +kernel, rfl, by decide +kernel, by decide +kernel⟩
abbrev sf_is_row : Stmt := topS 8
abbrev N_is_row : List Str := ["value", "length"]
theorem sc_is_row : FnScope N_is_row ["value", "length"] (defScope sf_is_row) := ⟨rfl, rfl, rfl, by decide +kernel, rfl, by decide +kernel, by decide +kernel⟩
abbrev sf_signum : Stmt := topS 9
abbrev N_signum : List Str := ["number"]
theorem sc_signum : FnScope N_signum ["number"] (defScope sf_signum) := ⟨rfl, rfl, rfl, by decide +kernel, rfl, by decide +kernel, by decide +kernel⟩
abbrev sf_braid_fault : Stmt := topS 12
abbrev N_braid_fault : List Str := ["value", "letter"]
theorem sc_braid_fault : FnScope N_braid_fault ["value"] (defScope sf_braid_fault) := ⟨rfl, rfl, rfl, by decide +kernel, rfl, by decide +kernel, by decide +kernel⟩
abbrev sf_trivial : Stmt := topS 13
abbrev N_trivial : List Str := ["strands"]
theorem sc_trivial : FnScope N_trivial ["strands"] (defScope sf_trivial) := ⟨rfl, rfl, rfl, by decide +kernel, rfl, by decide +kernel, by decide +kernel⟩
abbrev sf_joined : Stmt := topS 14
abbrev N_joined : List Str := ["one", "other"]
theorem sc_joined : FnScope N_joined ["one", "other"] (defScope sf_joined) := ⟨rfl, rfl, rfl, by decide +kernel, rfl, by decide +kernel, by decide +kernel⟩
abbrev sf_undone : Stmt := topS 15
abbrev N_undone : List Str := ["braid", "letter"]
theorem sc_undone : FnScope N_undone ["braid"] (defScope sf_undone) := ⟨rfl, rfl, rfl, by decide +kernel, rfl, by decide +kernel, by decide +kernel⟩
abbrev sf_mirrored : Stmt := topS 16
abbrev N_mirrored : List Str := ["braid", "letter"]
theorem sc_mirrored : FnScope N_mirrored ["braid"] (defScope sf_mirrored) := ⟨rfl, rfl, rfl, by decide +kernel, rfl, by decide +kernel, by decide +kernel⟩
abbrev sf_turned : Stmt := topS 17
abbrev N_turned : List Str := ["braid", "strands", "letter"]
theorem sc_turned : FnScope N_turned ["braid"] (defScope sf_turned) := ⟨rfl, rfl, rfl, by decide +kernel, rfl, by decide +kernel, by decide +kernel⟩
abbrev sf_from_below : Stmt := topS 18
abbrev N_from_below : List Str := ["braid"]
theorem sc_from_below : FnScope N_from_below ["braid"] (defScope sf_from_below) := ⟨rfl, rfl, rfl, by decide +kernel, rfl, by decide +kernel, by decide +kernel⟩
abbrev sf_repeated : Stmt := topS 19
abbrev N_repeated : List Str := ["braid", "count"]
theorem sc_repeated : FnScope N_repeated ["braid", "count"] (defScope sf_repeated) := ⟨rfl, rfl, rfl, by decide +kernel, rfl, by decide +kernel, by decide +kernel⟩
abbrev sf_freely_reduced : Stmt := topS 20
abbrev N_freely_reduced : List Str := ["braid", "found", "letter"]
theorem sc_freely_reduced : FnScope N_freely_reduced ["braid"] (defScope sf_freely_reduced) := ⟨rfl, rfl, rfl, by decide +kernel, rfl, by decide +kernel, by decide +kernel⟩
abbrev sf_exponent_sum : Stmt := topS 21
abbrev N_exponent_sum : List Str := ["braid", "letter"]
theorem sc_exponent_sum : FnScope N_exponent_sum ["braid"] (defScope sf_exponent_sum) := ⟨rfl, rfl, rfl, by decide +kernel, rfl, by decide +kernel, by decide +kernel⟩
abbrev sf_order_of : Stmt := topS 22
abbrev N_order_of : List Str := ["braid", "order", "letter"]
theorem sc_order_of : FnScope N_order_of ["braid"] (defScope sf_order_of) := ⟨rfl, rfl, rfl, by decide +kernel, rfl, by decide +kernel, by decide +kernel⟩
abbrev sf_component_count : Stmt := topS 23
abbrev N_component_count : List Str := ["braid"]
theorem sc_component_count : FnScope N_component_count ["braid"] (defScope sf_component_count) := ⟨rfl, rfl, rfl, by decide +kernel, rfl, by decide +kernel, by decide +kernel⟩
abbrev sf_crossing_table : Stmt := topS 24
abbrev N_crossing_table : List Str := ["braid", "strands", "places", "table", "letter", "at", "pair"]
theorem sc_crossing_table : FnScope N_crossing_table ["braid"] (defScope sf_crossing_table) := ⟨rfl, rfl, rfl, by decide +kernel, rfl, by decide +kernel, by decide +kernel⟩
abbrev sf_is_pure : Stmt := topS 25
abbrev N_is_pure : List Str := ["braid"]
theorem sc_is_pure : FnScope N_is_pure ["braid"] (defScope sf_is_pure) := ⟨rfl, rfl, rfl, by decide +kernel, rfl, by decide +kernel, by decide +kernel⟩
abbrev sf_braid_linking_rows : Stmt := topS 26
abbrev N_braid_linking_rows : List Str := ["braid", "parts", "home", "at", "part", "number", "rows", "_", "pair", "one", "other", "row"]
theorem sc_braid_linking_rows : FnScope N_braid_linking_rows ["braid"] (defScope sf_braid_linking_rows) := ⟨rfl, rfl, rfl, by decide +kernel, rfl, by decide +kernel, by decide +kernel⟩
abbrev sf_widened : Stmt := topS 27
abbrev N_widened : List Str := ["braid", "strands"]
theorem sc_widened : FnScope N_widened ["braid", "strands"] (defScope sf_widened) := ⟨rfl, rfl, rfl, by decide +kernel, rfl, by decide +kernel, by decide +kernel⟩
abbrev sf_shifted : Stmt := topS 28
abbrev N_shifted : List Str := ["braid", "count", "letters", "letter"]
theorem sc_shifted : FnScope N_shifted ["braid", "count"] (defScope sf_shifted) := ⟨rfl, rfl, rfl, by decide +kernel, rfl, by decide +kernel, by decide +kernel⟩
abbrev sf_beside : Stmt := topS 29
abbrev N_beside : List Str := ["one", "other", "strands"]
theorem sc_beside : FnScope N_beside ["one", "other"] (defScope sf_beside) := ⟨rfl, rfl, rfl, by decide +kernel, rfl, by decide +kernel, by decide +kernel⟩
abbrev sf_full_twist : Stmt := topS 30
abbrev N_full_twist : List Str := ["strands"]
theorem sc_full_twist : FnScope N_full_twist ["strands"] (defScope sf_full_twist) := ⟨rfl, rfl, rfl, by decide +kernel, rfl, by decide +kernel, by decide +kernel⟩
abbrev sf_half_twist : Stmt := topS 31
abbrev N_half_twist : List Str := ["strands", "letters", "last"]
theorem sc_half_twist : FnScope N_half_twist ["strands"] (defScope sf_half_twist) := ⟨rfl, rfl, rfl, by decide +kernel, rfl, by decide +kernel, by decide +kernel⟩
abbrev sf_torus_braid : Stmt := topS 32
abbrev N_torus_braid : List Str := ["strands", "turns"]
theorem sc_torus_braid : FnScope N_torus_braid ["strands", "turns"] (defScope sf_torus_braid) := ⟨rfl, rfl, rfl, by decide +kernel, rfl, by decide +kernel, by decide +kernel⟩
abbrev sf_doubled : Stmt := topS 33
abbrev N_doubled : List Str := ["braid", "letters", "letter", "at", "row", "part"]
theorem sc_doubled : FnScope N_doubled ["braid"] (defScope sf_doubled) := ⟨rfl, rfl, rfl, by decide +kernel, rfl, by decide +kernel, by decide +kernel⟩
abbrev sf__law_state : Stmt := topS 35
abbrev N__law_state : List Str := ["script"]
theorem sc__law_state : FnScope N__law_state ["script"] (defScope sf__law_state) := ⟨rfl, rfl, rfl, by decide +kernel, rfl, by decide +kernel, by decide +kernel⟩
abbrev sf__law_draw : Stmt := topS 36
abbrev N__law_draw : List Str := ["state", "limit", "cell", "digit", "mixed"]
theorem sc__law_draw : FnScope N__law_draw ["state", "limit"] (defScope sf__law_draw) := ⟨rfl, rfl, rfl, by decide +kernel, rfl, by decide +kernel, by decide +kernel⟩
abbrev sf__law_truth : Stmt := topS 37
abbrev N__law_truth : List Str := ["told", "due"]
theorem sc__law_truth : FnScope N__law_truth ["told", "due"] (defScope sf__law_truth) := ⟨rfl, rfl, rfl, by decide +kernel, rfl, by decide +kernel, by decide +kernel⟩
abbrev sf__law_braid : Stmt := topS 38
abbrev N__law_braid : List Str := ["state", "most", "length", "strands", "letters", "k", "letter"]
theorem sc__law_braid : FnScope N__law_braid ["state", "most", "length"] (defScope sf__law_braid) := ⟨rfl, rfl, rfl, by decide +kernel, rfl, by decide +kernel, by decide +kernel⟩
abbrev sf__law_order_of : Stmt := topS 39
abbrev N__law_order_of : List Str := ["braid", "places", "k", "letter", "at", "order", "place"]
theorem sc__law_order_of : FnScope N__law_order_of ["braid"] (defScope sf__law_order_of) := ⟨rfl, rfl, rfl, by decide +kernel, rfl, by decide +kernel, by decide +kernel⟩
abbrev sf__law_sign : Stmt := topS 40
abbrev N__law_sign : List Str := ["letter"]
theorem sc__law_sign : FnScope N__law_sign ["letter"] (defScope sf__law_sign) := ⟨rfl, rfl, rfl, by decide +kernel, rfl, by decide +kernel, by decide +kernel⟩
abbrev sf__law_table : Stmt := topS 41
abbrev N__law_table : List Str := ["braid", "places", "k", "table", "letter", "at", "pair"]
theorem sc__law_table : FnScope N__law_table ["braid"] (defScope sf__law_table) := ⟨rfl, rfl, rfl, by decide +kernel, rfl, by decide +kernel, by decide +kernel⟩
abbrev sf__law_parts : Stmt := topS 42
abbrev N__law_parts : List Str := ["order", "found", "start", "part"]
theorem sc__law_parts : FnScope N__law_parts ["order"] (defScope sf__law_parts) := ⟨rfl, rfl, rfl, by decide +kernel, rfl, by decide +kernel, by decide +kernel⟩
abbrev sf__law_linking : Stmt := topS 43
abbrev N__law_linking : List Str := ["braid", "parts", "table", "rows", "one", "row", "two", "number", "a", "b"]
theorem sc__law_linking : FnScope N__law_linking ["braid"] (defScope sf__law_linking) := ⟨rfl, rfl, rfl, by decide +kernel, rfl, by decide +kernel, by decide +kernel⟩
abbrev sf__law_reduced : Stmt := topS 44
abbrev N__law_reduced : List Str := ["letters", "left", "turn", "k"]
theorem sc__law_reduced : FnScope N__law_reduced ["letters"] (defScope sf__law_reduced) := ⟨rfl, rfl, rfl, by decide +kernel, rfl, by decide +kernel, by decide +kernel⟩
abbrev sf__law_fault_holds : Stmt := topS 45
abbrev N__law_fault_holds : List Str := ["state", "braid", "strands", "letters", "wrong", "value", "due"]
theorem sc__law_fault_holds : FnScope N__law_fault_holds ["state", "braid"] (defScope sf__law_fault_holds) := ⟨rfl, rfl, rfl, by decide +kernel, rfl, by decide +kernel, by decide +kernel⟩
abbrev sf_law : Stmt := topS 46
abbrev N_law : List Str := ["script", "state", "one", "strands", "letters", "two", "letter", "x", "count", "due", "order", "parts", "k", "more", "moved", "half", "last", "row", "wide", "y"]
theorem sc_law : FnScope N_law ["script"] (defScope sf_law) := ⟨rfl, rfl, rfl, by decide +kernel, rfl, by decide +kernel, by decide +kernel⟩
def F_straight : FD := runF 1 0 1
    (sRet (fTupRg (rRg2 [] ([] ++ []) (fC (.int 1)) (fOp [0] [] gAdd (fVar 0) (fC (.int 1))))))
def F_after : FD := runF 2 0 3
    (sRet (fCl gTuple (fCons [] [] (fComp [2] (iSeq (fVar 0)) (gNm 2) fYes (chk (fOp [1] ([] ++ []) gIxA (fVar 1) (fOp [2] [] gSub (fVar 2) (fC (.int 1)))))) fNil)))
def F_swap : FD := runF 2 0 3
    (sSeq (sSet 2 (fLstRg (rRg2 [] ([] ++ []) (fC (.int 1)) (fOp [0] [] gAdd (fVar 0) (fC (.int 1))))))
    (sSeq (sAsg (gTp 2 (gsCons (gSt 2 (fOp [1] [] gSub (fVar 1) (fC (.int 1)))) (gsCons (gSt 2 (fVar 1)) gsNil))) (fTup (fCons [] (([] ++ ([] ++ [])) ++ []) (chk (fOp [2] [] gIxA (fVar 2) (fVar 1))) (fCons [] [] (chk (fOp [2] ([] ++ []) gIxA (fVar 2) (fOp [1] [] gSub (fVar 1) (fC (.int 1))))) fNil))))
    (sRet (fCl gTuple (fCons [2] [] (fVar 2) fNil)))))
def F_circles : FD := runF 1 0 6
    (sSeq (sSet 1 (fLst fNil))
    (sSeq (sSet 2 fDnew)
    (sSeq (sFor (iRg2 (fCons [] ((([] ++ []) ++ []) ++ []) (fC (.int 1)) (fCons [] [] (fOp [] [] gAdd (fCl gLen (fCons [0] [] (fVar 0) fNil)) (fC (.int 1))) fNil))) (gNm 3) (sIf (fB (fOp [3] [] gNi (fVar 3) (fVar 2))) (sSeq (sSet 4 (fLst fNil))
    (sSeq (sSet 5 (fAli 3))
    (sSeq (sWhile (fB (fOp [5] [] gNi (fVar 5) (fVar 2))) (sSeq (sAsg (gSt 2 (fVar 5)) (fC (.bl true)))
    (sSeq (sDrop (fMut 4 "list" gAppend (fCons [] [] (fAli 5) fNil)))
    (sSet 5 (chk (fOp [0] ([] ++ []) gIxA (fVar 0) (fOp [5] [] gSub (fVar 5) (fC (.int 1)))))))))
    (sDrop (fMut 1 "list" gAppend (fCons [] [] (fCl gTuple (fCons [4] [] (fVar 4) fNil)) fNil)))))) sNil))
    (sRet (fMov 1)))))
def F_is_integer : FD := runF 1 0 1
    (sRet (fAndV (fIsN "int" (fVar 0)) (fNotV (fIsN "bool" (fVar 0)))))
def F_is_between : FD := runF 3 0 3
    (sRet (fAndV (fCall F_is_integer (fCons [0] [] (fVar 0) fNil)) (fChain [1] [] [0] [] gLe gLe (fVar 1) (fVar 0) (fVar 2))))
def F_is_row : FD := runF 2 0 2
    (sRet (fAndV (fIsN "tuple" (fVar 0)) (fOp [] [] gEq (fCl gLen (fCons [0] [] (fVar 0) fNil)) (fVar 1))))
def F_signum : FD := runF 1 0 1
    (sSeq (sIf (fB (fOp [0] [] gEq (fVar 0) (fC (.int 0)))) (sRet (fC (.int 0))) sNil)
    (sRet (fIf (fB (fOp [0] [] gGt (fVar 0) (fC (.int 0)))) (fC (.int 1)) (fUn gNeg (fC (.int 1))))))
def F_braid_fault : FD := runF 1 0 2
    (sSeq (sIf (fOr (fNot (fTr (fCall F_is_row (fCons [0] ([] ++ []) (fVar 0) (fCons [] [] (fC (.int 2)) fNil))))) (fNot (fTr (fIsN "tuple" (fOp [0] [] gIxA (fVar 0) (fC (.int 1))))))) (sRet (fC (.str "form"))) sNil)
    (sSeq (sIf (fNot (fTr (fCall F_is_between (fCons [0] ([] ++ ([] ++ [])) (fOp [0] [] gIxA (fVar 0) (fC (.int 0))) (fCons [] ([] ++ []) (fC (.int 1)) (fCons [] [] (fC c_MOST_STRANDS) fNil)))))) (sRet (fC (.str "strands"))) sNil)
    (sSeq (sIf (fTr (fCl gAny (fCons [] [] (fComp [1] (iSeq (fOp [0] [] gIxA (fVar 0) (fC (.int 1)))) (gNm 1) fYes (fOrV (fNotV (fCall F_is_integer (fCons [1] [] (fVar 1) fNil))) (fOrV (fOp [1] [] gEq (fVar 1) (fC (.int 0))) (fOp [] ([] ++ []) gGe (fCl gAbs (fCons [1] [] (fVar 1) fNil)) (fOp [0] [] gIxA (fVar 0) (fC (.int 0))))))) fNil))) (sRet (fC (.str "letters"))) sNil)
    (sRet (fC .non)))))
def F_trivial : FD := runF 1 0 1
    (sRet (fTup (fCons [] ([] ++ []) (fAli 0) (fCons [] [] (fTup fNil) fNil))))
def F_joined : FD := runF 2 0 2
    (sRet (fTup (fCons [] ((([] ++ []) ++ ([] ++ [])) ++ []) (chk (fOp [0] [] gIxA (fVar 0) (fC (.int 0)))) (fCons [] [] (fOp [0] ([] ++ []) gAdd (fOp [0] [] gIxA (fVar 0) (fC (.int 1))) (fOp [1] [] gIxA (fVar 1) (fC (.int 1)))) fNil))))
def F_undone : FD := runF 1 0 2
    (sRet (fTup (fCons [] (((([] ++ []) ++ (([1] ++ ([1] ++ ([] ++ []))) ++ [1])) ++ []) ++ []) (chk (fOp [0] [] gIxA (fVar 0) (fC (.int 0)))) (fCons [] [] (fCl gTuple (fCons [] [] (fComp [1] (iRev (fOp [0] [] gIxA (fVar 0) (fC (.int 1)))) (gNm 1) fYes (fUn gNeg (fVar 1))) fNil)) fNil))))
def F_mirrored : FD := runF 1 0 2
    (sRet (fTup (fCons [] (((([] ++ []) ++ (([1] ++ ([1] ++ ([] ++ []))) ++ [1])) ++ []) ++ []) (chk (fOp [0] [] gIxA (fVar 0) (fC (.int 0)))) (fCons [] [] (fCl gTuple (fCons [] [] (fComp [1] (iSeq (fOp [0] [] gIxA (fVar 0) (fC (.int 1)))) (gNm 1) fYes (fUn gNeg (fVar 1))) fNil)) fNil))))
def F_turned : FD := runF 1 0 3
    (sSeq (sSet 1 (chk (fOp [0] [] gIxA (fVar 0) (fC (.int 0)))))
    (sRet (fTup (fCons [] (((([] ++ []) ++ (([2] ++ ([2] ++ ([] ++ (([] ++ []) ++ ([] ++ ([] ++ [])))))) ++ [2])) ++ []) ++ []) (fAli 1) (fCons [] [] (fCl gTuple (fCons [] [] (fComp [2] (iSeq (fOp [0] [] gIxA (fVar 0) (fC (.int 1)))) (gNm 2) fYes (fOp [] ([] ++ ([] ++ [])) gMul (fCall F_signum (fCons [2] [] (fVar 2) fNil)) (fOp [1] ([] ++ []) gSub (fVar 1) (fCl gAbs (fCons [2] [] (fVar 2) fNil))))) fNil)) fNil)))))
def F_from_below : FD := runF 1 0 1
    (sRet (fTup (fCons [] (([] ++ []) ++ []) (chk (fOp [0] [] gIxA (fVar 0) (fC (.int 0)))) (fCons [] [] (fTupRev (fOp [0] [] gIxA (fVar 0) (fC (.int 1)))) fNil))))
def F_repeated_0 : FD := runF 2 0 2 fun _ => none
def F_repeated_1 : FD := runF 2 0 2
    (sSeq (sIf (fB (fOp [1] [] gLt (fVar 1) (fC (.int 0)))) (sRet (fCall F_repeated_0 (fCons [] ([] ++ []) (fCall F_undone (fCons [0] [] (fVar 0) fNil)) (fCons [] [] (fUn gNeg (fVar 1)) fNil)))) sNil)
    (sRet (fTup (fCons [] ((([] ++ []) ++ []) ++ []) (chk (fOp [0] [] gIxA (fVar 0) (fC (.int 0)))) (fCons [] [] (fOp [0] [] gMul (fOp [0] [] gIxA (fVar 0) (fC (.int 1))) (fVar 1)) fNil)))))
def F_repeated : FD := runF 2 0 2
    (sSeq (sIf (fB (fOp [1] [] gLt (fVar 1) (fC (.int 0)))) (sRet (fCall F_repeated_1 (fCons [] ([] ++ []) (fCall F_undone (fCons [0] [] (fVar 0) fNil)) (fCons [] [] (fUn gNeg (fVar 1)) fNil)))) sNil)
    (sRet (fTup (fCons [] ((([] ++ []) ++ []) ++ []) (chk (fOp [0] [] gIxA (fVar 0) (fC (.int 0)))) (fCons [] [] (fOp [0] [] gMul (fOp [0] [] gIxA (fVar 0) (fC (.int 1))) (fVar 1)) fNil)))))
def F_freely_reduced : FD := runF 1 0 3
    (sSeq (sSet 1 (fLst fNil))
    (sSeq (sFor (iSeq (fOp [0] [] gIxA (fVar 0) (fC (.int 1)))) (gNm 2) (sIf (fAnd (fTr (fVar 1)) (fB (fOp [1] [] gEq (fOp [1] [] gIxA (fVar 1) (fUn gNeg (fC (.int 1)))) (fUn gNeg (fVar 2))))) (sDrop (fMut 1 "list" gPop fNil)) (sDrop (fMut 1 "list" gAppend (fCons [] [] (fAli 2) fNil)))))
    (sRet (fTup (fCons [] (([] ++ []) ++ []) (chk (fOp [0] [] gIxA (fVar 0) (fC (.int 0)))) (fCons [] [] (fCl gTuple (fCons [1] [] (fVar 1) fNil)) fNil))))))
def F_exponent_sum : FD := runF 1 0 2
    (sRet (fCl gSum (fCons [] [] (fComp [1] (iSeq (fOp [0] [] gIxA (fVar 0) (fC (.int 1)))) (gNm 1) fYes (fCall F_signum (fCons [1] [] (fVar 1) fNil))) fNil)))
def F_order_of : FD := runF 1 0 3
    (sSeq (sSet 1 (fCall F_straight (fCons [0] [] (fOp [0] [] gIxA (fVar 0) (fC (.int 0))) fNil)))
    (sSeq (sFor (iSeq (fOp [0] [] gIxA (fVar 0) (fC (.int 1)))) (gNm 2) (sSet 1 (fCall F_after (fCons [1] ((([] ++ []) ++ (([] ++ []) ++ [])) ++ []) (fVar 1) (fCons [] [] (fCall F_swap (fCons [0] (([] ++ []) ++ []) (fOp [0] [] gIxA (fVar 0) (fC (.int 0))) (fCons [] [] (fCl gAbs (fCons [2] [] (fVar 2) fNil)) fNil))) fNil)))))
    (sRet (fMov 1))))
def F_component_count : FD := runF 1 0 1
    (sRet (fCl gLen (fCons [] [] (fCall F_circles (fCons [] [] (fCall F_order_of (fCons [0] [] (fVar 0) fNil)) fNil)) fNil)))
def F_crossing_table : FD := runF 1 0 7
    (sSeq (sSet 1 (chk (fOp [0] [] gIxA (fVar 0) (fC (.int 0)))))
    (sSeq (sSet 2 (fLstRg (rRg2 [] ([] ++ []) (fC (.int 1)) (fOp [1] [] gAdd (fVar 1) (fC (.int 1))))))
    (sSeq (sSet 3 fDnewT)
    (sSeq (sFor (iSeq (fOp [0] [] gIxA (fVar 0) (fC (.int 1)))) (gNm 4) (sSeq (sSet 5 (fCl gAbs (fCons [4] [] (fVar 4) fNil)))
    (sSeq (sSet 6 (fCl gTuple (fCons [] [] (fCl gSortedI (fCons [] [] (fLst (fCons [] (([] ++ []) ++ []) (chk (fOp [2] ([] ++ []) gIxA (fVar 2) (fOp [5] [] gSub (fVar 5) (fC (.int 1))))) (fCons [] [] (chk (fOp [2] [] gIxA (fVar 2) (fVar 5))) fNil))) fNil)) fNil)))
    (sSeq (sAsg (gSt 3 (fVar 6)) (fOp [] ([] ++ []) gAdd (fGet2 [3] [] [] (fVar 3) (fVar 6) (fC (.int 0))) (fCall F_signum (fCons [4] [] (fVar 4) fNil))))
    (sAsg (gTp 2 (gsCons (gSt 2 (fOp [5] [] gSub (fVar 5) (fC (.int 1)))) (gsCons (gSt 2 (fVar 5)) gsNil))) (fTup (fCons [] (([] ++ ([] ++ [])) ++ []) (chk (fOp [2] [] gIxA (fVar 2) (fVar 5))) (fCons [] [] (chk (fOp [2] ([] ++ []) gIxA (fVar 2) (fOp [5] [] gSub (fVar 5) (fC (.int 1))))) fNil))))))))
    (sRet (fMov 3))))))
def F_is_pure : FD := runF 1 0 1
    (sRet (fOp [] (([] ++ []) ++ []) gEq (fCall F_order_of (fCons [0] [] (fVar 0) fNil)) (fCall F_straight (fCons [0] [] (fOp [0] [] gIxA (fVar 0) (fC (.int 0))) fNil))))
def F_braid_linking_rows : FD := runF 1 0 12
    (sSeq (sSet 1 (fCall F_circles (fCons [] [] (fCall F_order_of (fCons [0] [] (fVar 0) fNil)) fNil)))
    (sSeq (sSet 2 fDnew)
    (sSeq (sFor (iEnm (fVar 1)) (gTp 2 (gsCons (gNm 3) (gsCons (gNm 4) gsNil))) (sFor (iSeq (fVar 4)) (gNm 5) (sAsg (gSt 2 (fVar 5)) (fVar 3))))
    (sSeq (sSet 6 (fComp [7] (iSeq (fVar 1)) (gNm 7) fYes (fOp [] ([] ++ []) gMul (fLst (fCons [] [] (fC (.int 0)) fNil)) (fCl gLen (fCons [1] [] (fVar 1) fNil)))))
    (sSeq (sFor (iItT (fCall F_crossing_table (fCons [0] [] (fVar 0) fNil))) (gTp 2 (gsCons (gNm 8) (gsCons (gNm 5) gsNil))) (sSeq (sSet 9 (chk (fOp [2] ([] ++ []) gIxA (fVar 2) (fOp [8] [] gIxA (fVar 8) (fC (.int 0))))))
    (sSeq (sSet 10 (chk (fOp [2] ([] ++ []) gIxA (fVar 2) (fOp [8] [] gIxA (fVar 8) (fC (.int 1))))))
    (sIf (fB (fOp [9] [] gNe (fVar 9) (fVar 10))) (sSeq (sAugSS 6 gAddT (fVar 9) (fVar 10) (fVar 5))
    (sAugSS 6 gAddT (fVar 10) (fVar 9) (fVar 5))) sNil))))
    (sRet (fCl gTuple (fCons [] [] (fComp [11] (iSeq (fAli 6)) (gNm 11) fYes (fCl gTuple (fCons [11] [] (fVar 11) fNil))) fNil))))))))
def F_widened : FD := runF 2 0 2
    (sRet (fTup (fCons [] (([] ++ []) ++ []) (fAli 1) (fCons [] [] (chk (fOp [0] [] gIxA (fVar 0) (fC (.int 1)))) fNil))))
def F_shifted : FD := runF 2 0 4
    (sSeq (sSet 2 (fComp [3] (iSeq (fOp [0] [] gIxA (fVar 0) (fC (.int 1)))) (gNm 3) fYes (fIf (fB (fOp [3] [] gGt (fVar 3) (fC (.int 0)))) (fOp [3] [] gAdd (fVar 3) (fVar 1)) (fOp [3] [] gSub (fVar 3) (fVar 1)))))
    (sRet (fTup (fCons [] (([] ++ []) ++ []) (fOp [0] [] gAdd (fOp [0] [] gIxA (fVar 0) (fC (.int 0))) (fVar 1)) (fCons [] [] (fCl gTuple (fCons [2] [] (fVar 2) fNil)) fNil)))))
def F_beside : FD := runF 2 0 3
    (sSeq (sSet 2 (fOp [0] ([] ++ []) gAdd (fOp [0] [] gIxA (fVar 0) (fC (.int 0))) (fOp [1] [] gIxA (fVar 1) (fC (.int 0)))))
    (sRet (fTup (fCons [] ((([] ++ []) ++ (([] ++ (([] ++ []) ++ [])) ++ [])) ++ []) (fAli 2) (fCons [] [] (fOp [0] (([] ++ (([] ++ []) ++ [])) ++ []) gAdd (fOp [0] [] gIxA (fVar 0) (fC (.int 1))) (fOp [] [] gIxA (fCall F_shifted (fCons [1] (([] ++ []) ++ []) (fVar 1) (fCons [0] [] (fOp [0] [] gIxA (fVar 0) (fC (.int 0))) fNil))) (fC (.int 1)))) fNil)))))
def F_full_twist : FD := runF 1 0 1
    (sRet (fTup (fCons [] ((([] ++ []) ++ []) ++ []) (fAli 0) (fCons [] [] (fOp [] [] gMul (fTupRg (rRg2 [] [] (fC (.int 1)) (fVar 0))) (fVar 0)) fNil))))
def F_half_twist : FD := runF 1 0 3
    (sSeq (sSet 1 (fLst fNil))
    (sSeq (sFor (iRg3 (fCons [] ([] ++ ([] ++ [])) (fOp [0] [] gSub (fVar 0) (fC (.int 1))) (fCons [] ([] ++ []) (fC (.int 0)) (fCons [] [] (fUn gNeg (fC (.int 1))) fNil)))) (gNm 2) (sDrop (fMut 1 "list" gExtend (fCons [] [] (fFz (fLstRg (rRg2 [] ([] ++ []) (fC (.int 1)) (fOp [2] [] gAdd (fVar 2) (fC (.int 1)))))) fNil))))
    (sRet (fTup (fCons [] (([] ++ []) ++ []) (fAli 0) (fCons [] [] (fCl gTuple (fCons [1] [] (fVar 1) fNil)) fNil))))))
def F_torus_braid : FD := runF 2 0 2
    (sRet (fCall F_repeated (fCons [] ([] ++ []) (fTup (fCons [] (([] ++ []) ++ []) (fAli 0) (fCons [] [] (fTupRg (rRg2 [] [] (fC (.int 1)) (fVar 0))) fNil))) (fCons [1] [] (fVar 1) fNil))))
def F_doubled : FD := runF 1 0 6
    (sSeq (sSet 1 (fLst fNil))
    (sSeq (sFor (iSeq (fOp [0] [] gIxA (fVar 0) (fC (.int 1)))) (gNm 2) (sSeq (sSet 3 (fOp [] ([] ++ []) gMul (fC (.int 2)) (fCl gAbs (fCons [2] [] (fVar 2) fNil))))
    (sSeq (sSet 4 (fTup (fCons [] (([] ++ []) ++ (([] ++ []) ++ ([3] ++ []))) (fAli 3) (fCons [] (([] ++ []) ++ ([3] ++ [])) (fOp [3] [] gSub (fVar 3) (fC (.int 1))) (fCons [] ([3] ++ []) (fOp [3] [] gAdd (fVar 3) (fC (.int 1))) (fCons [] [] (fAli 3) fNil))))))
    (sDrop (fMut 1 "list" gExtend (fCons [] [] (fFz (fComp [5] (iSeq (fVar 4)) (gNm 5) fYes (fOp [] [] gMul (fCall F_signum (fCons [2] [] (fVar 2) fNil)) (fVar 5)))) fNil))))))
    (sRet (fTup (fCons [] (([] ++ []) ++ []) (fOp [] ([] ++ []) gMul (fC (.int 2)) (fOp [0] [] gIxA (fVar 0) (fC (.int 0)))) (fCons [] [] (fCl gTuple (fCons [1] [] (fVar 1) fNil)) fNil))))))
def F__law_state : FD := runF 1 0 1
    (sRet (fLst (fCons [] ([] ++ ([] ++ ([] ++ ([] ++ ([] ++ []))))) (fFz (fCl gListA (fCons [0] [] (fVar 0) fNil))) (fCons [] ([] ++ ([] ++ ([] ++ ([] ++ [])))) (fC (.int 0)) (fCons [] ([] ++ ([] ++ ([] ++ []))) (fC (.int 0)) (fCons [] ([] ++ ([] ++ [])) (fC (.int 0)) (fCons [] ([] ++ []) (fC (.bl false)) (fCons [] [] (fC (.int 500)) fNil))))))))
def F__law_draw : FD := runF 2 1 5
    (sSeq (sIf (fB (fOp [0] [] gEq (fOp [0] [] gIxA (fVar 0) (fC (.int 3))) (fC (.int 0)))) (sSeq (sIf (fB (fOp [0] (([] ++ []) ++ []) gGe (fOp [0] [] gIxA (fVar 0) (fC (.int 1))) (fCl gLen (fCons [0] [] (fOp [0] [] gIxA (fVar 0) (fC (.int 0))) fNil)))) (sRet (fC (.int 0))) sNil)
    (sSeq (sSet 2 (chk (fOp [0] ([] ++ []) gIxA (fOp [0] [] gIxA (fVar 0) (fC (.int 0))) (fOp [0] [] gIxA (fVar 0) (fC (.int 1))))))
    (sSeq (sIf (fB (fOp [2] [] gLt (fVar 2) (fC (.int 0)))) (sSet 2 (fOp [] [] gSub (fUn gNeg (fC (.int 1))) (fVar 2))) sNil)
    (sSeq (sAsg (gSt 0 (fC (.int 1))) (fOp [0] [] gAdd (fOp [0] [] gIxA (fVar 0) (fC (.int 1))) (fC (.int 1))))
    (sSeq (sAsg (gSt 0 (fC (.int 2))) (fVar 2))
    (sSeq (sAsg (gSt 0 (fC (.int 4))) (fOp [2] ([] ++ []) gGe (fVar 2) (fOp [] [] gPow (fC (.int 10)) (fC (.int 18)))))
    (sSeq (sAsg (gSt 0 (fC (.int 3))) (fC (.int 6)))
    (sIf (fTr (fOp [0] [] gIxA (fVar 0) (fC (.int 4)))) (sAsg (gSt 0 (fC (.int 3))) (fC (.int 60))) sNil)))))))) sNil)
    (sSeq (sAsg (gSt 0 (fC (.int 3))) (fOp [0] [] gSub (fOp [0] [] gIxA (fVar 0) (fC (.int 3))) (fC (.int 1))))
    (sSeq (sIf (fTr (fOp [0] [] gIxA (fVar 0) (fC (.int 4)))) (sSeq (sSet 3 (fOp [] [] gMod (fCl gInt (fCons [0] [] (fOp [0] [] gIxA (fVar 0) (fC (.int 2))) fNil)) (fVar 1)))
    (sSeq (sAsg (gSt 0 (fC (.int 2))) (fOp [0] [] gDiv (fOp [0] [] gIxA (fVar 0) (fC (.int 2))) (fVar 1)))
    (sSeq (sIf (fB (fOp [0] [] gEq (fOp [0] [] gIxA (fVar 0) (fC (.int 2))) (fC (.int 0)))) (sAsg (gSt 0 (fC (.int 3))) (fC (.int 0))) sNil)
    (sRet (fMov 3))))) sNil)
    (sSeq (sSet 4 (fOp [] [] gMod (fCl gInt (fCons [] [] (fOp [] [] gAdd (fOp [] (([] ++ []) ++ []) gAdd (fOp [0] [] gMul (fOp [0] [] gIxA (fVar 0) (fC (.int 2))) (fC (.int 48271))) (fOp [0] [] gMul (fOp [0] [] gIxA (fVar 0) (fC (.int 3))) (fC (.int 69621)))) (fC (.int 7))) fNil)) (fC (.int 2147483647))))
    (sSeq (sSet 4 (fOp [] [] gMod (fCl gInt (fCons [] [] (fOp [] ([] ++ []) gAdd (fOp [] (([] ++ []) ++ []) gAdd (fOp [4] [] gMul (fVar 4) (fVar 4)) (fOp [0] [] gMul (fOp [0] [] gIxA (fVar 0) (fC (.int 2))) (fC (.int 31)))) (fOp [0] [] gIxA (fVar 0) (fC (.int 3)))) fNil)) (fC (.int 1000003))))
    (sRet (fOp [] [] gMod (fCl gInt (fCons [4] [] (fVar 4) fNil)) (fVar 1))))))))
def F__law_truth : FD := runF 2 0 2
    (sSeq (sIf (fTr (fVar 1)) (sRet (fOp [0] [] gIs (fVar 0) (fC (.bl true)))) sNil)
    (sRet (fOp [0] [] gIs (fVar 0) (fC (.bl false)))))
def F__law_braid : FD := runF 3 1 7
    (sSeq (sSet 3 (fOp [] ((([] ++ []) ++ []) ++ [0]) gAdd (fC (.int 2)) (fCallM F__law_draw 0 (fCons [] [] (fOp [1] [] gSub (fVar 1) (fC (.int 1))) fNil))))
    (sSeq (sSet 4 (fLst fNil))
    (sSeq (sFor (iRg1 (fCons [] [] (fCallM F__law_draw 0 (fCons [] [] (fOp [2] [] gAdd (fVar 2) (fC (.int 1))) fNil)) fNil)) (gNm 5) (sSeq (sSet 6 (fOp [] ((([] ++ []) ++ []) ++ [0]) gAdd (fC (.int 1)) (fCallM F__law_draw 0 (fCons [] [] (fOp [3] [] gSub (fVar 3) (fC (.int 1))) fNil))))
    (sDrop (fMut 4 "list" gAppend (fCons [] [] (chk (fOp [] (([] ++ []) ++ [0]) gIxA (fLst (fCons [] (([] ++ []) ++ []) (fAli 6) (fCons [] [] (fOp [] [] gSub (fC (.int 0)) (fVar 6)) fNil))) (fCallM F__law_draw 0 (fCons [] [] (fC (.int 2)) fNil)))) fNil)))))
    (sRet (fTup (fCons [] (([] ++ []) ++ []) (fAli 3) (fCons [] [] (fCl gTuple (fCons [4] [] (fVar 4) fNil)) fNil)))))))
def F__law_order_of : FD := runF 1 0 7
    (sSeq (sSet 1 (fComp [2] (iRg1 (fCons [0] [] (fOp [0] [] gIxA (fVar 0) (fC (.int 0))) fNil)) (gNm 2) fYes (fOp [2] [] gAdd (fVar 2) (fC (.int 1)))))
    (sSeq (sFor (iSeq (fOp [0] [] gIxA (fVar 0) (fC (.int 1)))) (gNm 3) (sSeq (sSet 4 (fCl gAbs (fCons [3] [] (fVar 3) fNil)))
    (sAsg (gTp 2 (gsCons (gSt 1 (fOp [4] [] gSub (fVar 4) (fC (.int 1)))) (gsCons (gSt 1 (fVar 4)) gsNil))) (fTup (fCons [] (([] ++ ([] ++ [])) ++ []) (chk (fOp [1] [] gIxA (fVar 1) (fVar 4))) (fCons [] [] (chk (fOp [1] ([] ++ []) gIxA (fVar 1) (fOp [4] [] gSub (fVar 4) (fC (.int 1))))) fNil))))))
    (sSeq (sSet 5 (fComp [2] (iRg1 (fCons [0] [] (fOp [0] [] gIxA (fVar 0) (fC (.int 0))) fNil)) (gNm 2) fYes (fC (.int 0))))
    (sSeq (sFor (iRg1 (fCons [0] [] (fOp [0] [] gIxA (fVar 0) (fC (.int 0))) fNil)) (gNm 6) (sAsg (gSt 5 (fOp [1] [] gSub (fOp [1] [] gIxA (fVar 1) (fVar 6)) (fC (.int 1)))) (fOp [6] [] gAdd (fVar 6) (fC (.int 1)))))
    (sRet (fCl gTuple (fCons [5] [] (fVar 5) fNil)))))))
def F__law_sign : FD := runF 1 0 1
    (sRet (fOp [] ([] ++ (([] ++ []) ++ [])) gSub (fC (.int 1)) (fOp [] (([] ++ []) ++ []) gMul (fC (.int 2)) (fCl gInt (fCons [] [] (fOp [0] [] gLt (fVar 0) (fC (.int 0))) fNil)))))
def F__law_table : FD := runF 1 0 7
    (sSeq (sSet 1 (fComp [2] (iRg1 (fCons [0] [] (fOp [0] [] gIxA (fVar 0) (fC (.int 0))) fNil)) (gNm 2) fYes (fOp [2] [] gAdd (fVar 2) (fC (.int 1)))))
    (sSeq (sSet 3 fDnewT)
    (sSeq (sFor (iSeq (fOp [0] [] gIxA (fVar 0) (fC (.int 1)))) (gNm 4) (sSeq (sSet 5 (fCl gAbs (fCons [4] [] (fVar 4) fNil)))
    (sSeq (sSet 6 (fTup (fCons [] ((([] ++ ([] ++ [])) ++ (([] ++ []) ++ [])) ++ []) (fCl gMinA (fCons [1] (([] ++ []) ++ []) (fOp [1] ([] ++ []) gIxA (fVar 1) (fOp [5] [] gSub (fVar 5) (fC (.int 1)))) (fCons [1] [] (fOp [1] [] gIxA (fVar 1) (fVar 5)) fNil))) (fCons [] [] (fCl gMaxA (fCons [1] (([] ++ []) ++ []) (fOp [1] ([] ++ []) gIxA (fVar 1) (fOp [5] [] gSub (fVar 5) (fC (.int 1)))) (fCons [1] [] (fOp [1] [] gIxA (fVar 1) (fVar 5)) fNil))) fNil))))
    (sSeq (sAsg (gSt 3 (fVar 6)) (fOp [] ([] ++ []) gAdd (fGet2 [3] [] [] (fVar 3) (fVar 6) (fC (.int 0))) (fCall F__law_sign (fCons [4] [] (fVar 4) fNil))))
    (sAsg (gTp 2 (gsCons (gSt 1 (fOp [5] [] gSub (fVar 5) (fC (.int 1)))) (gsCons (gSt 1 (fVar 5)) gsNil))) (fTup (fCons [] (([] ++ ([] ++ [])) ++ []) (chk (fOp [1] [] gIxA (fVar 1) (fVar 5))) (fCons [] [] (chk (fOp [1] ([] ++ []) gIxA (fVar 1) (fOp [5] [] gSub (fVar 5) (fC (.int 1))))) fNil))))))))
    (sRet (fMov 3)))))
def F__law_parts : FD := runF 1 0 4
    (sSeq (sSet 1 (fLst fNil))
    (sSeq (sFor (iRg2 (fCons [] ((([] ++ []) ++ []) ++ []) (fC (.int 1)) (fCons [] [] (fOp [] [] gAdd (fCl gLen (fCons [0] [] (fVar 0) fNil)) (fC (.int 1))) fNil))) (gNm 2) (sSeq (sSet 3 (fLst (fCons [] [] (fAli 2) fNil)))
    (sSeq (sWhile (fB (fOp [0] [] gNe (fOp [0] (([] ++ (([] ++ []) ++ [])) ++ []) gIxA (fVar 0) (fOp [3] [] gSub (fOp [3] (([] ++ []) ++ []) gIxA (fVar 3) (fOp [] [] gSub (fCl gLen (fCons [3] [] (fVar 3) fNil)) (fC (.int 1)))) (fC (.int 1)))) (fVar 2))) (sDrop (fMut 3 "list" gAppend (fCons [] [] (chk (fOp [0] (([] ++ (([] ++ []) ++ [])) ++ []) gIxA (fVar 0) (fOp [3] [] gSub (fOp [3] (([] ++ []) ++ []) gIxA (fVar 3) (fOp [] [] gSub (fCl gLen (fCons [3] [] (fVar 3) fNil)) (fC (.int 1)))) (fC (.int 1))))) fNil))))
    (sIf (fB (fOp [] [] gEq (fCl gMinA (fCons [3] [] (fVar 3) fNil)) (fVar 2))) (sDrop (fMut 1 "list" gAppend (fCons [] [] (fAli 3) fNil))) sNil))))
    (sRet (fMov 1))))
def F__law_linking : FD := runF 1 0 10
    (sSeq (sSet 1 (fCall F__law_parts (fCons [] [] (fCall F__law_order_of (fCons [0] [] (fVar 0) fNil)) fNil)))
    (sSeq (sSet 2 (fCall F__law_table (fCons [0] [] (fVar 0) fNil)))
    (sSeq (sSet 3 (fLst fNil))
    (sSeq (sFor (iSeq (fVar 1)) (gNm 4) (sSeq (sSet 5 (fLst fNil))
    (sSeq (sFor (iSeq (fVar 1)) (gNm 6) (sSeq (sSet 7 (fC (.int 0)))
    (sSeq (sDk 2 (sFor (iKy 2) (gTp 2 (gsCons (gNm 8) (gsCons (gNm 9) gsNil))) (sIf (fAnd (fB (fOp [4] [] gNe (fVar 4) (fVar 6))) (fOr (fAnd (fB (fOp [8] [] gIn (fVar 8) (fVar 4))) (fB (fOp [9] [] gIn (fVar 9) (fVar 6)))) (fAnd (fB (fOp [8] [] gIn (fVar 8) (fVar 6))) (fB (fOp [9] [] gIn (fVar 9) (fVar 4)))))) (sSet 7 (fOp [7] ([] ++ ([8] ++ ([9] ++ []))) gAdd (fVar 7) (fOp [2] ([8] ++ ([9] ++ [])) gIxA (fVar 2) (fTup (fCons [] ([9] ++ []) (fAli 8) (fCons [] [] (fAli 9) fNil)))))) sNil)))
    (sDrop (fMut 5 "list" gAppend (fCons [] [] (fAli 7) fNil))))))
    (sDrop (fMut 3 "list" gAppend (fCons [] [] (fCl gTuple (fCons [5] [] (fVar 5) fNil)) fNil))))))
    (sRet (fCl gTuple (fCons [3] [] (fVar 3) fNil)))))))
def F__law_reduced : FD := runF 1 0 4
    (sSeq (sSet 1 (fCl gListA (fCons [0] [] (fVar 0) fNil)))
    (sSeq (sFor (iRg1 (fCons [] [] (fCl gLen (fCons [0] [] (fVar 0) fNil)) fNil)) (gNm 2) (sFor (iRg1 (fCons [] [] (fOp [] [] gSub (fCl gLen (fCons [1] [] (fVar 1) fNil)) (fC (.int 1))) fNil)) (gNm 3) (sIf (fB (fOp [1] ([] ++ ([] ++ ([] ++ []))) gEq (fOp [1] [] gIxA (fVar 1) (fVar 3)) (fOp [] ([] ++ ([] ++ [])) gSub (fC (.int 0)) (fOp [1] ([] ++ []) gIxA (fVar 1) (fOp [3] [] gAdd (fVar 3) (fC (.int 1))))))) (sSeq (sSet 1 (fOp [] ([] ++ (([] ++ []) ++ [])) gAdd (fSl [1] ([] ++ []) (fVar 1) oNone (oSome (fVar 3))) (fSl [1] (([] ++ []) ++ []) (fVar 1) (oSome (fOp [3] [] gAdd (fVar 3) (fC (.int 2)))) oNone)))
    sBk) sNil)))
    (sRet (fCl gTuple (fCons [1] [] (fVar 1) fNil)))))
def F__law_fault_holds : FD := runF 2 1 7
    (sSeq (sAsg (gTp 2 (gsCons (gNm 2) (gsCons (gNm 3) gsNil))) (fVar 1))
    (sSeq (sSet 4 (fLst (fCons [] ((([2] ++ []) ++ ([] ++ [])) ++ ((([2] ++ (([] ++ []) ++ [])) ++ ([] ++ [])) ++ ((([] ++ ([] ++ [])) ++ ([] ++ [])) ++ (([] ++ ([] ++ [])) ++ [])))) (fTup (fCons [] ([] ++ []) (fC .non) (fCons [] [] (fC (.str "form")) fNil))) (fCons [] ((([2] ++ (([] ++ []) ++ [])) ++ ([] ++ [])) ++ ((([] ++ ([] ++ [])) ++ ([] ++ [])) ++ (([] ++ ([] ++ [])) ++ []))) (fTup (fCons [] ([] ++ []) (fTup (fCons [] [] (fAli 2) fNil)) (fCons [] [] (fC (.str "form")) fNil))) (fCons [] ((([] ++ ([] ++ [])) ++ ([] ++ [])) ++ (([] ++ ([] ++ [])) ++ [])) (fFz (fTup (fCons [] ([] ++ []) (fFz (fTup (fCons [] (([] ++ []) ++ []) (fAli 2) (fCons [] [] (fFz (fCl gListA (fCons [3] [] (fVar 3) fNil))) fNil)))) (fCons [] [] (fC (.str "form")) fNil)))) (fCons [] (([] ++ ([] ++ [])) ++ []) (fTup (fCons [] ([] ++ []) (fOp [1] ([] ++ []) gAdd (fVar 1) (fTup (fCons [] [] (fC (.int 1)) fNil))) (fCons [] [] (fC (.str "form")) fNil))) (fCons [] [] (fTup (fCons [] ([] ++ []) (fC (.str "3:")) (fCons [] [] (fC (.str "form")) fNil))) fNil)))))))
    (sSeq (sSet 4 (fOp [4] ((([] ++ ([] ++ [])) ++ ([] ++ [])) ++ ((([] ++ (([] ++ []) ++ [])) ++ ([] ++ [])) ++ ((([] ++ ([] ++ [])) ++ ([] ++ [])) ++ ((([] ++ (([] ++ []) ++ [])) ++ ([] ++ [])) ++ [])))) gAdd (fVar 4) (fLst (fCons [] ((([] ++ (([] ++ []) ++ [])) ++ ([] ++ [])) ++ ((([] ++ ([] ++ [])) ++ ([] ++ [])) ++ ((([] ++ (([] ++ []) ++ [])) ++ ([] ++ [])) ++ []))) (fTup (fCons [] ([] ++ []) (fTup (fCons [] ([] ++ []) (fC (.int 0)) (fCons [] [] (fTup fNil) fNil))) (fCons [] [] (fC (.str "strands")) fNil))) (fCons [] ((([] ++ ([] ++ [])) ++ ([] ++ [])) ++ ((([] ++ (([] ++ []) ++ [])) ++ ([] ++ [])) ++ [])) (fTup (fCons [] ([] ++ []) (fTup (fCons [] (([] ++ []) ++ []) (fC (.int 13)) (fCons [] [] (fTup (fCons [] [] (fC (.int 1)) fNil)) fNil))) (fCons [] [] (fC (.str "strands")) fNil))) (fCons [] ((([] ++ (([] ++ []) ++ [])) ++ ([] ++ [])) ++ []) (fTup (fCons [] ([] ++ []) (fTup (fCons [] ([] ++ []) (fC (.bl true)) (fCons [] [] (fTup fNil) fNil))) (fCons [] [] (fC (.str "strands")) fNil))) (fCons [] [] (fTup (fCons [] ([] ++ []) (fTup (fCons [] (([] ++ []) ++ []) (fC (.str "3")) (fCons [] [] (fTup (fCons [] [] (fC (.int 1)) fNil)) fNil))) (fCons [] [] (fC (.str "strands")) fNil))) fNil)))))))
    (sSeq (sSet 4 (fOp [4] ((([2] ++ (([] ++ ([2] ++ [])) ++ [])) ++ ([] ++ [])) ++ ((([2] ++ ((([] ++ []) ++ []) ++ [])) ++ ([] ++ [])) ++ [])) gAdd (fVar 4) (fLst (fCons [] ((([2] ++ ((([] ++ []) ++ []) ++ [])) ++ ([] ++ [])) ++ []) (fTup (fCons [] ([] ++ []) (fTup (fCons [] (([] ++ ([2] ++ [])) ++ []) (fAli 2) (fCons [] [] (fOp [3] ([2] ++ []) gAdd (fVar 3) (fTup (fCons [] [] (fAli 2) fNil))) fNil))) (fCons [] [] (fC (.str "letters")) fNil))) (fCons [] [] (fTup (fCons [] ([] ++ []) (fTup (fCons [] ((([] ++ []) ++ []) ++ []) (fAli 2) (fCons [] [] (fOp [] [] gAdd (fTup (fCons [] [] (fC (.int 0)) fNil)) (fVar 3)) fNil))) (fCons [] [] (fC (.str "letters")) fNil))) fNil)))))
    (sSeq (sSet 4 (fOp [4] ((([2] ++ (([] ++ ([] ++ [])) ++ [])) ++ ([] ++ [])) ++ ((([2] ++ ((([] ++ []) ++ []) ++ [])) ++ ([] ++ [])) ++ ((([2] ++ (([] ++ []) ++ [])) ++ ([] ++ [])) ++ []))) gAdd (fVar 4) (fLst (fCons [] ((([2] ++ ((([] ++ []) ++ []) ++ [])) ++ ([] ++ [])) ++ ((([2] ++ (([] ++ []) ++ [])) ++ ([] ++ [])) ++ [])) (fTup (fCons [] ([] ++ []) (fTup (fCons [] (([] ++ ([] ++ [])) ++ []) (fAli 2) (fCons [] [] (fOp [3] ([] ++ []) gAdd (fVar 3) (fTup (fCons [] [] (fC (.bl true)) fNil))) fNil))) (fCons [] [] (fC (.str "letters")) fNil))) (fCons [] ((([2] ++ (([] ++ []) ++ [])) ++ ([] ++ [])) ++ []) (fTup (fCons [] ([] ++ []) (fTup (fCons [] ((([] ++ []) ++ []) ++ []) (fAli 2) (fCons [] [] (fTup (fCons [] [] (fOp [] [] gSub (fC (.int 0)) (fVar 2)) fNil)) fNil))) (fCons [] [] (fC (.str "letters")) fNil))) (fCons [] [] (fTup (fCons [] ([] ++ []) (fTup (fCons [] (([] ++ []) ++ []) (fAli 2) (fCons [] [] (fTup (fCons [] [] (fC (.str "1")) fNil)) fNil))) (fCons [] [] (fC (.str "letters")) fNil))) fNil))))))
    (sSeq (sSet 4 (fOp [4] ((([] ++ (([] ++ []) ++ [])) ++ ([] ++ [])) ++ ((([] ++ (([] ++ []) ++ [])) ++ ([] ++ [])) ++ ((([2] ++ (([] ++ []) ++ [])) ++ ([] ++ [])) ++ (([] ++ ([] ++ [])) ++ [])))) gAdd (fVar 4) (fLst (fCons [] ((([] ++ (([] ++ []) ++ [])) ++ ([] ++ [])) ++ ((([2] ++ (([] ++ []) ++ [])) ++ ([] ++ [])) ++ (([] ++ ([] ++ [])) ++ []))) (fTup (fCons [] ([] ++ []) (fTup (fCons [] (([] ++ []) ++ []) (fC (.int 0)) (fCons [] [] (fTup (fCons [] [] (fC (.int 0)) fNil)) fNil))) (fCons [] [] (fC (.str "strands")) fNil))) (fCons [] ((([2] ++ (([] ++ []) ++ [])) ++ ([] ++ [])) ++ (([] ++ ([] ++ [])) ++ [])) (fTup (fCons [] ([] ++ []) (fTup (fCons [] (([] ++ []) ++ []) (fC (.int 1)) (fCons [] [] (fTup (fCons [] [] (fC (.int 1)) fNil)) fNil))) (fCons [] [] (fC (.str "letters")) fNil))) (fCons [] (([] ++ ([] ++ [])) ++ []) (fTup (fCons [] ([] ++ []) (fTup (fCons [] (([] ++ []) ++ []) (fAli 2) (fCons [] [] (fTup (fCons [] [] (fC .non) fNil)) fNil))) (fCons [] [] (fC (.str "letters")) fNil))) (fCons [] [] (fTup (fCons [] ([] ++ []) (fC (.int 7)) (fCons [] [] (fC (.str "form")) fNil))) fNil)))))))
    (sSeq (sAsg (gTp 2 (gsCons (gNm 5) (gsCons (gNm 6) gsNil))) (fOp [4] ((([] ++ []) ++ []) ++ [0]) gIxA (fVar 4) (fCallM F__law_draw 0 (fCons [] [] (fCl gLen (fCons [4] [] (fVar 4) fNil)) fNil))))
    (sRet (fAndV (fOp [] [] gEq (fCall F_braid_fault (fCons [5] [] (fVar 5) fNil)) (fVar 6)) (fAndV (fOp [] [] gIsN (fCall F_braid_fault (fCons [1] [] (fVar 1) fNil)) (fC .non)) (fOp [] [] gIsN (fCall F_braid_fault (fCons [] [] (fTup (fCons [] ([] ++ []) (fC (.int 1)) (fCons [] [] (fTup fNil) fNil))) fNil)) (fC .non))))))))))))
def F_law : FD := runF 1 0 20
    (sSeq (sSet 1 (fCall F__law_state (fCons [0] [] (fVar 0) fNil)))
    (sSeq (sSet 2 (fCallM F__law_braid 1 (fCons [] ([] ++ []) (fC (.int 8)) (fCons [] [] (fC (.int 14)) fNil))))
    (sSeq (sAsg (gTp 2 (gsCons (gNm 3) (gsCons (gNm 4) gsNil))) (fVar 2))
    (sSeq (sSet 5 (fTup (fCons [] (((([] ++ ([] ++ [])) ++ [1]) ++ []) ++ []) (fAli 3) (fCons [] [] (chk (fOp [] [] gIxA (fCallM F__law_braid 1 (fCons [] ([] ++ []) (fC (.int 8)) (fCons [] [] (fC (.int 9)) fNil))) (fC (.int 1)))) fNil))))
    (sSeq (sSet 5 (fTup (fCons [] (((([] ++ []) ++ (([6] ++ ([6] ++ ((([] ++ []) ++ []) ++ []))) ++ [6])) ++ []) ++ []) (fAli 3) (fCons [] [] (fCl gTuple (fCons [] [] (fComp [6] (iSeq (fOp [5] [] gIxA (fVar 5) (fC (.int 1)))) (gNm 6) (fB (fOp [] [] gLt (fCl gAbs (fCons [6] [] (fVar 6) fNil)) (fVar 3))) (fVal 6)) fNil)) fNil))))
    (sSeq (sIf (fOr (fB (fOp [] ([3] ++ (([] ++ ([] ++ [])) ++ [])) gNe (fCall F_joined (fCons [2] ([] ++ []) (fVar 2) (fCons [5] [] (fVar 5) fNil))) (fTup (fCons [] (([] ++ ([] ++ [])) ++ []) (fAli 3) (fCons [] [] (fOp [4] ([] ++ []) gAdd (fVar 4) (fOp [5] [] gIxA (fVar 5) (fC (.int 1)))) fNil))))) (fB (fOp [] ([3] ++ ((([] ++ (([7] ++ ([7] ++ ([] ++ ([] ++ [])))) ++ [7])) ++ []) ++ [])) gNe (fCall F_undone (fCons [2] [] (fVar 2) fNil)) (fTup (fCons [] ((([] ++ (([7] ++ ([7] ++ ([] ++ ([] ++ [])))) ++ [7])) ++ []) ++ []) (fAli 3) (fCons [] [] (fCl gTuple (fCons [] [] (fComp [7] (iSeq (fRevS (fVar 4))) (gNm 7) fYes (fOp [] [] gSub (fC (.int 0)) (fVar 7))) fNil)) fNil)))))) (sRet (fC (.bl false))) sNil)
    (sSeq (sIf (fOr (fB (fOp [] ([3] ++ ((([] ++ (([7] ++ ([7] ++ ([] ++ ([] ++ [])))) ++ [7])) ++ []) ++ [])) gNe (fCall F_mirrored (fCons [2] [] (fVar 2) fNil)) (fTup (fCons [] ((([] ++ (([7] ++ ([7] ++ ([] ++ ([] ++ [])))) ++ [7])) ++ []) ++ []) (fAli 3) (fCons [] [] (fCl gTuple (fCons [] [] (fComp [7] (iSeq (fVar 4)) (gNm 7) fYes (fOp [] [] gSub (fC (.int 0)) (fVar 7))) fNil)) fNil))))) (fB (fOp [] ([3] ++ ([] ++ [])) gNe (fCall F_from_below (fCons [2] [] (fVar 2) fNil)) (fTup (fCons [] ([] ++ []) (fAli 3) (fCons [] [] (fRevS (fVar 4)) fNil)))))) (sRet (fC (.bl false))) sNil)
    (sSeq (sIf (fOr (fB (fOp [] ([3] ++ ((([] ++ (([7] ++ ([7] ++ ([] ++ (([] ++ []) ++ ([] ++ ([] ++ [])))))) ++ [7])) ++ []) ++ [])) gNe (fCall F_turned (fCons [2] [] (fVar 2) fNil)) (fTup (fCons [] ((([] ++ (([7] ++ ([7] ++ ([] ++ (([] ++ []) ++ ([] ++ ([] ++ [])))))) ++ [7])) ++ []) ++ []) (fAli 3) (fCons [] [] (fCl gTuple (fCons [] [] (fComp [7] (iSeq (fVar 4)) (gNm 7) fYes (fOp [] ([] ++ ([] ++ [])) gMul (fCall F__law_sign (fCons [7] [] (fVar 7) fNil)) (fOp [3] ([] ++ []) gSub (fVar 3) (fCl gAbs (fCons [7] [] (fVar 7) fNil))))) fNil)) fNil))))) (fB (fOp [] ([3] ++ ([] ++ [])) gNe (fCall F_trivial (fCons [3] [] (fVar 3) fNil)) (fTup (fCons [] ([] ++ []) (fAli 3) (fCons [] [] (fTup fNil) fNil)))))) (sRet (fC (.bl false))) sNil)
    (sSeq (sSet 8 (fOp [] [] gSub (fCallM F__law_draw 1 (fCons [] [] (fC (.int 7)) fNil)) (fC (.int 3))))
    (sSeq (sSet 9 (fOp [4] ([] ++ []) gMul (fVar 4) (fCl gAbs (fCons [8] [] (fVar 8) fNil))))
    (sSeq (sIf (fB (fOp [8] [] gLt (fVar 8) (fC (.int 0)))) (sSet 9 (fCl gTuple (fCons [] [] (fComp [7] (iSeq (fRevS (fVar 9))) (gNm 7) fYes (fOp [] [] gSub (fC (.int 0)) (fVar 7))) fNil))) sNil)
    (sSeq (sIf (fOr (fB (fOp [] ([3] ++ ([9] ++ [])) gNe (fCall F_repeated (fCons [2] ([] ++ []) (fVar 2) (fCons [8] [] (fVar 8) fNil))) (fTup (fCons [] ([9] ++ []) (fAli 3) (fCons [] [] (fAli 9) fNil))))) (fB (fOp [] ([3] ++ (([] ++ []) ++ [])) gNe (fCall F_freely_reduced (fCons [2] [] (fVar 2) fNil)) (fTup (fCons [] (([] ++ []) ++ []) (fAli 3) (fCons [] [] (fCall F__law_reduced (fCons [4] [] (fVar 4) fNil)) fNil)))))) (sRet (fC (.bl false))) sNil)
    (sSeq (sSet 10 (fCall F__law_order_of (fCons [2] [] (fVar 2) fNil)))
    (sSeq (sSet 11 (fCall F__law_parts (fCons [10] [] (fVar 10) fNil)))
    (sSeq (sIf (fOr (fB (fOp [] (([] ++ (([7] ++ ([7] ++ ([] ++ ([] ++ [])))) ++ [7])) ++ []) gNe (fCall F_exponent_sum (fCons [2] [] (fVar 2) fNil)) (fCl gSum (fCons [] [] (fComp [7] (iSeq (fVar 4)) (gNm 7) fYes (fCall F__law_sign (fCons [7] [] (fVar 7) fNil))) fNil)))) (fOr (fB (fOp [] [] gNe (fCall F_order_of (fCons [2] [] (fVar 2) fNil)) (fVar 10))) (fB (fOp [] ([] ++ []) gNe (fCall F_component_count (fCons [2] [] (fVar 2) fNil)) (fCl gLen (fCons [11] [] (fVar 11) fNil)))))) (sRet (fC (.bl false))) sNil)
    (sSeq (sIf (fOr (fB (fOp [] ([] ++ []) (gCmpT true) (fCall F_crossing_table (fCons [2] [] (fVar 2) fNil)) (fCall F__law_table (fCons [2] [] (fVar 2) fNil)))) (fB (fOp [] ([] ++ []) gNe (fCall F_braid_linking_rows (fCons [2] [] (fVar 2) fNil)) (fCall F__law_linking (fCons [2] [] (fVar 2) fNil))))) (sRet (fC (.bl false))) sNil)
    (sSeq (sIf (fNot (fTr (fCall F__law_truth (fCons [] (([] ++ ((([] ++ []) ++ (([12] ++ ([12] ++ ([] ++ ([] ++ [])))) ++ [12])) ++ [])) ++ []) (fCall F_is_pure (fCons [2] [] (fVar 2) fNil)) (fCons [] [] (fOp [10] ((([] ++ []) ++ (([12] ++ ([12] ++ ([] ++ ([] ++ [])))) ++ [12])) ++ []) gEq (fVar 10) (fCl gTuple (fCons [] [] (fComp [12] (iRg1 (fCons [3] [] (fVar 3) fNil)) (gNm 12) fYes (fOp [12] [] gAdd (fVar 12) (fC (.int 1)))) fNil))) fNil))))) (sRet (fC (.bl false))) sNil)
    (sSeq (sSet 13 (fCallM F__law_draw 1 (fCons [] [] (fC (.int 4)) fNil)))
    (sSeq (sSet 14 (fCl gTuple (fCons [] [] (fComp [7] (iSeq (fVar 4)) (gNm 7) fYes (fOp [7] ([] ++ ([] ++ [])) gAdd (fVar 7) (fOp [13] ([] ++ []) gMul (fVar 13) (fCall F__law_sign (fCons [7] [] (fVar 7) fNil))))) fNil)))
    (sSeq (sIf (fOr (fB (fOp [] (([] ++ []) ++ ([4] ++ [])) gNe (fCall F_widened (fCons [2] (([] ++ []) ++ []) (fVar 2) (fCons [] [] (fOp [3] [] gAdd (fVar 3) (fVar 13)) fNil))) (fTup (fCons [] ([4] ++ []) (fOp [3] [] gAdd (fVar 3) (fVar 13)) (fCons [] [] (fAli 4) fNil))))) (fB (fOp [] (([] ++ []) ++ ([14] ++ [])) gNe (fCall F_shifted (fCons [2] ([] ++ []) (fVar 2) (fCons [13] [] (fVar 13) fNil))) (fTup (fCons [] ([14] ++ []) (fOp [3] [] gAdd (fVar 3) (fVar 13)) (fCons [] [] (fAli 14) fNil)))))) (sRet (fC (.bl false))) sNil)
    (sSeq (sIf (fB (fOp [] (([] ++ []) ++ ((([] ++ []) ++ (([] ++ (([7] ++ ([7] ++ ([] ++ ([] ++ ([] ++ ([] ++ [])))))) ++ [7])) ++ [])) ++ [])) gNe (fCall F_beside (fCons [5] ([] ++ []) (fVar 5) (fCons [2] [] (fVar 2) fNil))) (fTup (fCons [] ((([] ++ []) ++ (([] ++ (([7] ++ ([7] ++ ([] ++ ([] ++ ([] ++ ([] ++ [])))))) ++ [7])) ++ [])) ++ []) (fOp [] [] gMul (fC (.int 2)) (fVar 3)) (fCons [] [] (fOp [5] (([] ++ (([7] ++ ([7] ++ ([] ++ ([] ++ ([] ++ ([] ++ [])))))) ++ [7])) ++ []) gAdd (fOp [5] [] gIxA (fVar 5) (fC (.int 1))) (fCl gTuple (fCons [] [] (fComp [7] (iSeq (fVar 4)) (gNm 7) fYes (fOp [7] ([] ++ ([] ++ [])) gAdd (fVar 7) (fOp [3] ([] ++ []) gMul (fVar 3) (fCall F__law_sign (fCons [7] [] (fVar 7) fNil))))) fNil))) fNil))))) (sRet (fC (.bl false))) sNil)
    (sSeq (sSet 15 (fLst fNil))
    (sSeq (sFor (iRg3 (fCons [] ([] ++ ([] ++ [])) (fOp [3] [] gSub (fVar 3) (fC (.int 1))) (fCons [] ([] ++ []) (fC (.int 0)) (fCons [] [] (fUn gNeg (fC (.int 1))) fNil)))) (gNm 16) (sSet 15 (fOp [15] (([] ++ []) ++ (([12] ++ ([12] ++ ([] ++ ([] ++ [])))) ++ [12])) gAdd (fVar 15) (fComp [12] (iRg1 (fCons [16] [] (fVar 16) fNil)) (gNm 12) fYes (fOp [12] [] gAdd (fVar 12) (fC (.int 1)))))))
    (sSeq (sSet 17 (fCl gTuple (fCons [] [] (fComp [12] (iRg1 (fCons [] [] (fOp [3] [] gSub (fVar 3) (fC (.int 1))) fNil)) (gNm 12) fYes (fOp [12] [] gAdd (fVar 12) (fC (.int 1)))) fNil)))
    (sSeq (sIf (fOr (fB (fOp [] ([3] ++ (([] ++ []) ++ [])) gNe (fCall F_half_twist (fCons [3] [] (fVar 3) fNil)) (fTup (fCons [] (([] ++ []) ++ []) (fAli 3) (fCons [] [] (fCl gTuple (fCons [15] [] (fVar 15) fNil)) fNil))))) (fB (fOp [] ([3] ++ (([] ++ []) ++ [])) gNe (fCall F_full_twist (fCons [3] [] (fVar 3) fNil)) (fTup (fCons [] (([] ++ []) ++ []) (fAli 3) (fCons [] [] (fOp [17] [] gMul (fVar 17) (fVar 3)) fNil)))))) (sRet (fC (.bl false))) sNil)
    (sSeq (sIf (fOr (fB (fOp [] ([3] ++ (([] ++ ([] ++ [])) ++ [])) gNe (fCall F_torus_braid (fCons [3] (([] ++ []) ++ []) (fVar 3) (fCons [] [] (fCl gAbs (fCons [8] [] (fVar 8) fNil)) fNil))) (fTup (fCons [] (([] ++ ([] ++ [])) ++ []) (fAli 3) (fCons [] [] (fOp [17] ([] ++ []) gMul (fVar 17) (fCl gAbs (fCons [8] [] (fVar 8) fNil))) fNil))))) (fB (fOp [] ([3] ++ ((([] ++ (([7] ++ ([7] ++ ([] ++ ([] ++ [])))) ++ [7])) ++ []) ++ [])) gNe (fCall F_torus_braid (fCons [3] ([] ++ []) (fVar 3) (fCons [] [] (fUn gNeg (fC (.int 1))) fNil))) (fTup (fCons [] ((([] ++ (([7] ++ ([7] ++ ([] ++ ([] ++ [])))) ++ [7])) ++ []) ++ []) (fAli 3) (fCons [] [] (fCl gTuple (fCons [] [] (fComp [7] (iSeq (fRevS (fVar 17))) (gNm 7) fYes (fOp [] [] gSub (fC (.int 0)) (fVar 7))) fNil)) fNil)))))) (sRet (fC (.bl false))) sNil)
    (sSeq (sSet 18 (fLst fNil))
    (sSeq (sFor (iSeq (fVar 4)) (gNm 7) (sSet 18 (fOp [18] ((([] ++ ([] ++ [])) ++ ((([] ++ ([] ++ [])) ++ []) ++ ((([] ++ ([] ++ [])) ++ []) ++ (([] ++ ([] ++ [])) ++ [])))) ++ (([19] ++ ([19] ++ ([] ++ (([] ++ []) ++ [])))) ++ [19])) gAdd (fVar 18) (fComp [19] (iSeq (fLst (fCons [] ((([] ++ ([] ++ [])) ++ []) ++ ((([] ++ ([] ++ [])) ++ []) ++ (([] ++ ([] ++ [])) ++ []))) (fOp [] ([] ++ []) gMul (fC (.int 2)) (fCl gAbs (fCons [7] [] (fVar 7) fNil))) (fCons [] ((([] ++ ([] ++ [])) ++ []) ++ (([] ++ ([] ++ [])) ++ [])) (fOp [] [] gSub (fOp [] ([] ++ []) gMul (fC (.int 2)) (fCl gAbs (fCons [7] [] (fVar 7) fNil))) (fC (.int 1))) (fCons [] (([] ++ ([] ++ [])) ++ []) (fOp [] [] gAdd (fOp [] ([] ++ []) gMul (fC (.int 2)) (fCl gAbs (fCons [7] [] (fVar 7) fNil))) (fC (.int 1))) (fCons [] [] (fOp [] ([] ++ []) gMul (fC (.int 2)) (fCl gAbs (fCons [7] [] (fVar 7) fNil))) fNil)))))) (gNm 19) fYes (fOp [] [] gMul (fCall F__law_sign (fCons [7] [] (fVar 7) fNil)) (fVar 19))))))
    (sRet (fAndV (fOp [] (([] ++ []) ++ (([] ++ []) ++ [])) gEq (fCall F_doubled (fCons [2] [] (fVar 2) fNil)) (fTup (fCons [] (([] ++ []) ++ []) (fOp [] [] gMul (fC (.int 2)) (fVar 3)) (fCons [] [] (fCl gTuple (fCons [18] [] (fVar 18) fNil)) fNil)))) (fCallM F__law_fault_holds 1 (fCons [2] [] (fVar 2) fNil))))))))))))))))))))))))))))))))
section
variable {P : Program} {w : World} {K : PySem.W.Frag} {mg : Str → Option Value} {base : Heap}
theorem ok_straight {a : Addr} {fd : FuncData} (F : Fun K "straight" "straight" sf_straight a fd) (z_range : mg "range" = none) (z_tuple : mg "tuple" = none) : FnV P w K mg base 1 a fd ["size"] 0 F_straight := by
  refine' fnv F sc_straight (by decide) ?hw fun cdv A outer s H E hr => ?hb
  case hb =>
    have nd := sc_straight.nd
    have u1 := Nat.lt_of_le_of_lt (Nat.add_le_add_left (show 1 ≤ 16 * 0 + 200 by decide) _) hr.un
    have u64 := Nat.lt_of_le_of_lt (Nat.add_le_add_left (show 64 ≤ 16 * 0 + 200 by decide) _) hr.un
    have u65 := Nat.lt_of_le_of_lt (Nat.add_le_add_left (show 65 ≤ 16 * 0 + 200 by decide) _) hr.un
    exact (pssv_one (psv_ret (pev_tupRg rfl (by rfl) z_tuple (prv_2 (by rfl) z_range pev_int (pev_op op_addV os_add (pev_var 0) pev_int)))))
  case hw => decide
theorem ok_after {a : Addr} {fd : FuncData} (F : Fun K "after" "after" sf_after a fd) (z_tuple : mg "tuple" = none) : FnV P w K mg base 1 a fd ["one", "other"] 0 F_after := by
  refine' fnv F sc_after (by decide) ?hw fun cdv A outer s H E hr => ?hb
  case hb =>
    have nd := sc_after.nd
    have u1 := Nat.lt_of_le_of_lt (Nat.add_le_add_left (show 1 ≤ 16 * 0 + 200 by decide) _) hr.un
    have u64 := Nat.lt_of_le_of_lt (Nat.add_le_add_left (show 64 ≤ 16 * 0 + 200 by decide) _) hr.un
    have u65 := Nat.lt_of_le_of_lt (Nat.add_le_add_left (show 65 ≤ 16 * 0 + 200 by decide) _) hr.un
    exact (pssv_one (psv_ret (pev_callTy call_tuple_of cs_tuple (by rfl) z_tuple (by rfl) (pav_cons (pev_lcV (own := [("goal", 2)]) [2] rfl nd (piv_seq (pev_var 0)) (blkOk_by (own := [("goal", 2)]) (N := N_after) (sc := defScope sf_after) (by decide +kernel)) (fun _ _ _ _ _ => (pgv_name 2 nd)) (fun _ _ _ _ _ => ptsv_nil) (fun _ _ _ _ _ => (pev_chk (pev_ixA u1 (pev_var 1) (pev_op op_sub os_I (pev_var 2) pev_int))))) (pav_nil (x := false))))))
  case hw => decide
theorem ok_swap {a : Addr} {fd : FuncData} (F : Fun K "swap" "swap" sf_swap a fd) (z_list : mg "list" = none) (z_range : mg "range" = none) (z_tuple : mg "tuple" = none) : FnV P w K mg base 1 a fd ["size", "place"] 0 F_swap := by
  refine' fnv F sc_swap (by decide) ?hw fun cdv A outer s H E hr => ?hb
  case hb =>
    have nd := sc_swap.nd
    have u1 := Nat.lt_of_le_of_lt (Nat.add_le_add_left (show 1 ≤ 16 * 0 + 200 by decide) _) hr.un
    have u64 := Nat.lt_of_le_of_lt (Nat.add_le_add_left (show 64 ≤ 16 * 0 + 200 by decide) _) hr.un
    have u65 := Nat.lt_of_le_of_lt (Nat.add_le_add_left (show 65 ≤ 16 * 0 + 200 by decide) _) hr.un
    exact (pssv_cons (psv_set 2 nd (pev_lstRg rfl (by rfl) z_list (prv_2 (by rfl) z_range pev_int (pev_op op_addV os_add (pev_var 0) pev_int))))
    (pssv_cons (psv_asg (pev_tup (pav_consX (pev_chk (pev_ixA u1 (pev_var 2) (pev_var 1))) (pav_consX (pev_chk (pev_ixA u1 (pev_var 2) (pev_op op_sub os_I (pev_var 1) pev_int))) (pav_nil (x := true))))) (pgv_tup rfl (pgsv_cons (pgv_sub 2 u1 (pev_op op_sub os_I (pev_var 1) pev_int)) (pgsv_cons (pgv_sub 2 u1 (pev_var 1)) pgsv_nil))))
    (pssv_one (psv_ret (pev_callTy call_tuple_of cs_tuple (by rfl) z_tuple (by rfl) (pav_cons (pev_var 2) (pav_nil (x := false))))))))
  case hw => decide
theorem ok_circles {a : Addr} {fd : FuncData} (F : Fun K "circles" "circles" sf_circles a fd) (z_len : mg "len" = none) (z_range : mg "range" = none) (z_tuple : mg "tuple" = none) : FnV P w K mg base 1 a fd ["one"] 0 F_circles := by
  refine' fnv F sc_circles (by decide) ?hw fun cdv A outer s H E hr => ?hb
  case hb =>
    have nd := sc_circles.nd
    have u1 := Nat.lt_of_le_of_lt (Nat.add_le_add_left (show 1 ≤ 16 * 0 + 200 by decide) _) hr.un
    have u64 := Nat.lt_of_le_of_lt (Nat.add_le_add_left (show 64 ≤ 16 * 0 + 200 by decide) _) hr.un
    have u65 := Nat.lt_of_le_of_lt (Nat.add_le_add_left (show 65 ≤ 16 * 0 + 200 by decide) _) hr.un
    exact (pssv_cons (psv_set 1 nd (pev_lst (pav_nil (x := true))))
    (pssv_cons (psv_set 2 nd pev_dnew)
    (pssv_cons (psv_for PassesOwn.never rfl (piv_range2 (by rfl) z_range (pav_cons pev_int (pav_cons (pev_op op_addV os_add (pev_callB call_lenV cs_len (by rfl) z_len (by rfl) (pav_cons (pev_var 0) (pav_nil (x := false)))) pev_int) (pav_nil (x := false))))) (pgv_name 3 nd) (pssv_one (psv_if (ptv_cmp (op_niA u65) os_ni (pev_var 3) (pev_var 2) (by rfl)) (pssv_cons (psv_set 4 nd (pev_lst (pav_nil (x := true))))
    (pssv_cons (psv_set 5 nd (pev_ali 3))
    (pssv_cons (psv_while PassesOwn.never (ptv_cmp (op_niA u65) os_ni (pev_var 5) (pev_var 2) (by rfl)) (pssv_cons (psv_asg pev_bl (pgv_sub 2 u1 (pev_var 5)))
    (pssv_cons (psv_expr (pev_bm 4 PySem.F.plainAttrs_list PySem.F.slot_list_append PySem.F.type_list_append mt_append mu_append (pav_consX (pev_ali 5) (pav_nil (x := true)))))
    (pssv_one (psv_set 5 nd (pev_chk (pev_ixA u1 (pev_var 0) (pev_op op_sub os_I (pev_var 5) pev_int))))))))
    (pssv_one (psv_expr (pev_bm 1 PySem.F.plainAttrs_list PySem.F.slot_list_append PySem.F.type_list_append mt_append mu_append (pav_consX (pev_callTy call_tuple_of cs_tuple (by rfl) z_tuple (by rfl) (pav_cons (pev_var 4) (pav_nil (x := false)))) (pav_nil (x := true))))))))) pssv_nil)))
    (pssv_one (psv_ret (pev_mov 1))))))
  case hw => decide
theorem ok_is_integer {a : Addr} {fd : FuncData} (F : Fun K "is_integer" "is_integer" sf_is_integer a fd) (z_bool : mg "bool" = none) (z_int : mg "int" = none) (z_isinstance : mg "isinstance" = none) : FnV P w K mg base 1 a fd ["value"] 0 F_is_integer := by
  refine' fnv F sc_is_integer (by decide) ?hw fun cdv A outer s H E hr => ?hb
  case hb =>
    have nd := sc_is_integer.nd
    have u1 := Nat.lt_of_le_of_lt (Nat.add_le_add_left (show 1 ≤ 16 * 0 + 200 by decide) _) hr.un
    have u64 := Nat.lt_of_le_of_lt (Nat.add_le_add_left (show 64 ≤ 16 * 0 + 200 by decide) _) hr.un
    have u65 := Nat.lt_of_le_of_lt (Nat.add_le_add_left (show 65 ≤ 16 * 0 + 200 by decide) _) hr.un
    exact (pssv_one (psv_ret (pev_and (pev_isi "int" (by rfl) z_int (by rfl) (by rfl) z_isinstance (pev_var 0)) (pev_one (pev_not (pev_isi "bool" (by rfl) z_bool (by rfl) (by rfl) z_isinstance (pev_var 0)))))))
  case hw => decide
theorem ok_is_between {a : Addr} {fd : FuncData} (F : Fun K "is_between" "is_between" sf_is_between a fd) {a_is_integer : Addr} {fd_is_integer : FuncData} (G_is_integer : FnV P w K mg base 1 a_is_integer fd_is_integer ["value"] 0 F_is_integer) (bi_is_integer : Binds K fd_is_integer ["value"] []) (gm_is_integer : mg "is_integer" = some (.ref a_is_integer)) (kp_is_integer : PySem.W.keepIn K (.ref a_is_integer) = true) : FnV P w K mg base 2 a fd ["value", "least", "most"] 0 F_is_between := by
  refine' fnv F sc_is_between (by decide) ?hw fun cdv A outer s H E hr => ?hb
  case hb =>
    have nd := sc_is_between.nd
    have u1 := Nat.lt_of_le_of_lt (Nat.add_le_add_left (show 1 ≤ 16 * 1 + 200 by decide) _) hr.un
    have u64 := Nat.lt_of_le_of_lt (Nat.add_le_add_left (show 64 ≤ 16 * 1 + 200 by decide) _) hr.un
    have u65 := Nat.lt_of_le_of_lt (Nat.add_le_add_left (show 65 ≤ 16 * 1 + 200 by decide) _) hr.un
    exact (pssv_one (psv_ret (pev_and (pev_call G_is_integer runF_ok (hr.mono (by decide)) (by rfl) gm_is_integer kp_is_integer bi_is_integer (pav_cons (pev_var 0) (pav_nil (x := false)))) (pev_one (pev_chain op_le os_B op_le os_B (pev_var 1) (pev_var 0) (pev_var 2))))))
  case hw => decide
theorem ok_is_row {a : Addr} {fd : FuncData} (F : Fun K "is_row" "is_row" sf_is_row a fd) (z_isinstance : mg "isinstance" = none) (z_len : mg "len" = none) (z_tuple : mg "tuple" = none) : FnV P w K mg base 1 a fd ["value", "length"] 0 F_is_row := by
  refine' fnv F sc_is_row (by decide) ?hw fun cdv A outer s H E hr => ?hb
  case hb =>
    have nd := sc_is_row.nd
    have u1 := Nat.lt_of_le_of_lt (Nat.add_le_add_left (show 1 ≤ 16 * 0 + 200 by decide) _) hr.un
    have u64 := Nat.lt_of_le_of_lt (Nat.add_le_add_left (show 64 ≤ 16 * 0 + 200 by decide) _) hr.un
    have u65 := Nat.lt_of_le_of_lt (Nat.add_le_add_left (show 65 ≤ 16 * 0 + 200 by decide) _) hr.un
    exact (pssv_one (psv_ret (pev_and (pev_isi "tuple" (by rfl) z_tuple (by rfl) (by rfl) z_isinstance (pev_var 0)) (pev_one (pev_cmp (op_eqD u64) os_eq (pev_callB call_lenV cs_len (by rfl) z_len (by rfl) (pav_cons (pev_var 0) (pav_nil (x := false)))) (pev_var 1) (nomark _))))))
  case hw => decide
theorem ok_signum {a : Addr} {fd : FuncData} (F : Fun K "signum" "signum" sf_signum a fd) : FnV P w K mg base 1 a fd ["number"] 0 F_signum := by
  refine' fnv F sc_signum (by decide) ?hw fun cdv A outer s H E hr => ?hb
  case hb =>
    have nd := sc_signum.nd
    have u1 := Nat.lt_of_le_of_lt (Nat.add_le_add_left (show 1 ≤ 16 * 0 + 200 by decide) _) hr.un
    have u64 := Nat.lt_of_le_of_lt (Nat.add_le_add_left (show 64 ≤ 16 * 0 + 200 by decide) _) hr.un
    have u65 := Nat.lt_of_le_of_lt (Nat.add_le_add_left (show 65 ≤ 16 * 0 + 200 by decide) _) hr.un
    exact (pssv_cons (psv_if (ptv_cmp (op_eqD u64) os_eq (pev_var 0) pev_int (nomark _)) (pssv_one (psv_ret pev_int)) pssv_nil)
    (pssv_one (psv_ret (pev_ifX (ptv_cmp op_gt os_B (pev_var 0) pev_int (nomark _)) pev_int (pev_un un_neg us_neg pev_int)))))
  case hw => decide
theorem ok_braid_fault {a : Addr} {fd : FuncData} (F : Fun K "braid_fault" "braid_fault" sf_braid_fault a fd) (z_abs : mg "abs" = none) (z_any : mg "any" = none) (z_isinstance : mg "isinstance" = none) (z_tuple : mg "tuple" = none) {u_MOST_STRANDS : Value} (gm_MOST_STRANDS : mg "MOST_STRANDS" = some u_MOST_STRANDS) (gd_MOST_STRANDS : GD K u_MOST_STRANDS c_MOST_STRANDS) {a_is_row : Addr} {fd_is_row : FuncData} (G_is_row : FnV P w K mg base 1 a_is_row fd_is_row ["value", "length"] 0 F_is_row) (bi_is_row : Binds K fd_is_row ["value", "length"] []) (gm_is_row : mg "is_row" = some (.ref a_is_row)) (kp_is_row : PySem.W.keepIn K (.ref a_is_row) = true) {a_is_between : Addr} {fd_is_between : FuncData} (G_is_between : FnV P w K mg base 2 a_is_between fd_is_between ["value", "least", "most"] 0 F_is_between) (bi_is_between : Binds K fd_is_between ["value", "least", "most"] []) (gm_is_between : mg "is_between" = some (.ref a_is_between)) (kp_is_between : PySem.W.keepIn K (.ref a_is_between) = true) {a_is_integer : Addr} {fd_is_integer : FuncData} (G_is_integer : FnV P w K mg base 1 a_is_integer fd_is_integer ["value"] 0 F_is_integer) (bi_is_integer : Binds K fd_is_integer ["value"] []) (gm_is_integer : mg "is_integer" = some (.ref a_is_integer)) (kp_is_integer : PySem.W.keepIn K (.ref a_is_integer) = true) : FnV P w K mg base 3 a fd ["value"] 0 F_braid_fault := by
  refine' fnv F sc_braid_fault (by decide) ?hw fun cdv A outer s H E hr => ?hb
  case hb =>
    have nd := sc_braid_fault.nd
    have u1 := Nat.lt_of_le_of_lt (Nat.add_le_add_left (show 1 ≤ 16 * 2 + 200 by decide) _) hr.un
    have u64 := Nat.lt_of_le_of_lt (Nat.add_le_add_left (show 64 ≤ 16 * 2 + 200 by decide) _) hr.un
    have u65 := Nat.lt_of_le_of_lt (Nat.add_le_add_left (show 65 ≤ 16 * 2 + 200 by decide) _) hr.un
    exact (pssv_cons (psv_if (ptv_w (pwv_or (ptv_not (ptv_tr (pev_call G_is_row runF_ok (hr.mono (by decide)) (by rfl) gm_is_row kp_is_row bi_is_row (pav_cons (pev_var 0) (pav_cons pev_int (pav_nil (x := false))))))) (pwv_or1 (ptv_not (ptv_tr (pev_isi "tuple" (by rfl) z_tuple (by rfl) (by rfl) z_isinstance (pev_ixA u1 (pev_var 0) pev_int))))))) (pssv_one (psv_ret pev_str)) pssv_nil)
    (pssv_cons (psv_if (ptv_not (ptv_tr (pev_call G_is_between runF_ok (hr.mono (by decide)) (by rfl) gm_is_between kp_is_between bi_is_between (pav_cons (pev_ixA u1 (pev_var 0) pev_int) (pav_cons pev_int (pav_cons (pev_glob (by rfl) gm_MOST_STRANDS gd_MOST_STRANDS) (pav_nil (x := false)))))))) (pssv_one (psv_ret pev_str)) pssv_nil)
    (pssv_cons (psv_if (ptv_tr (pev_callB (cr_any rfl) cs_any (by rfl) z_any (by rfl) (pav_cons (pev_lcV (own := [("letter", 1)]) [1] rfl nd (piv_seq (pev_ixA u1 (pev_var 0) pev_int)) (blkOk_by (own := [("letter", 1)]) (N := N_braid_fault) (sc := defScope sf_braid_fault) (by decide +kernel)) (fun _ _ _ _ _ => (pgv_name 1 nd)) (fun _ _ _ _ _ => ptsv_nil) (fun _ _ _ _ _ => (pev_or (pev_not (pev_call G_is_integer runF_ok (hr.mono (by decide)) (by rfl) gm_is_integer kp_is_integer bi_is_integer (pav_cons (pev_var 1) (pav_nil (x := false))))) (pev_or (pev_cmp (op_eqD u64) os_eq (pev_var 1) pev_int (nomark _)) (pev_one (pev_cmp op_ge os_B (pev_callB call_abs cs_abs (by rfl) z_abs (by rfl) (pav_cons (pev_var 1) (pav_nil (x := false)))) (pev_ixA u1 (pev_var 0) pev_int) (nomark _))))))) (pav_nil (x := false))))) (pssv_one (psv_ret pev_str)) pssv_nil)
    (pssv_one (psv_ret pev_non)))))
  case hw => decide
theorem ok_trivial {a : Addr} {fd : FuncData} (F : Fun K "trivial" "trivial" sf_trivial a fd) : FnV P w K mg base 1 a fd ["strands"] 0 F_trivial := by
  refine' fnv F sc_trivial (by decide) ?hw fun cdv A outer s H E hr => ?hb
  case hb =>
    have nd := sc_trivial.nd
    have u1 := Nat.lt_of_le_of_lt (Nat.add_le_add_left (show 1 ≤ 16 * 0 + 200 by decide) _) hr.un
    have u64 := Nat.lt_of_le_of_lt (Nat.add_le_add_left (show 64 ≤ 16 * 0 + 200 by decide) _) hr.un
    have u65 := Nat.lt_of_le_of_lt (Nat.add_le_add_left (show 65 ≤ 16 * 0 + 200 by decide) _) hr.un
    exact (pssv_one (psv_ret (pev_tup (pav_consX (pev_ali 0) (pav_consX (pev_tup (pav_nil (x := true))) (pav_nil (x := true)))))))
  case hw => decide
theorem ok_joined {a : Addr} {fd : FuncData} (F : Fun K "joined" "joined" sf_joined a fd) : FnV P w K mg base 1 a fd ["one", "other"] 0 F_joined := by
  refine' fnv F sc_joined (by decide) ?hw fun cdv A outer s H E hr => ?hb
  case hb =>
    have nd := sc_joined.nd
    have u1 := Nat.lt_of_le_of_lt (Nat.add_le_add_left (show 1 ≤ 16 * 0 + 200 by decide) _) hr.un
    have u64 := Nat.lt_of_le_of_lt (Nat.add_le_add_left (show 64 ≤ 16 * 0 + 200 by decide) _) hr.un
    have u65 := Nat.lt_of_le_of_lt (Nat.add_le_add_left (show 65 ≤ 16 * 0 + 200 by decide) _) hr.un
    exact (pssv_one (psv_ret (pev_tup (pav_consX (pev_chk (pev_ixA u1 (pev_var 0) pev_int)) (pav_consX (pev_op op_addV os_add (pev_ixA u1 (pev_var 0) pev_int) (pev_ixA u1 (pev_var 1) pev_int)) (pav_nil (x := true)))))))
  case hw => decide
theorem ok_undone {a : Addr} {fd : FuncData} (F : Fun K "undone" "undone" sf_undone a fd) (z_reversed : mg "reversed" = none) (z_tuple : mg "tuple" = none) : FnV P w K mg base 1 a fd ["braid"] 0 F_undone := by
  refine' fnv F sc_undone (by decide) ?hw fun cdv A outer s H E hr => ?hb
  case hb =>
    have nd := sc_undone.nd
    have u1 := Nat.lt_of_le_of_lt (Nat.add_le_add_left (show 1 ≤ 16 * 0 + 200 by decide) _) hr.un
    have u64 := Nat.lt_of_le_of_lt (Nat.add_le_add_left (show 64 ≤ 16 * 0 + 200 by decide) _) hr.un
    have u65 := Nat.lt_of_le_of_lt (Nat.add_le_add_left (show 65 ≤ 16 * 0 + 200 by decide) _) hr.un
    exact (pssv_one (psv_ret (pev_tup (pav_consX (pev_chk (pev_ixA u1 (pev_var 0) pev_int)) (pav_consX (pev_callTy call_tuple_of cs_tuple (by rfl) z_tuple (by rfl) (pav_cons (pev_lcV (own := [("letter", 1)]) [1] rfl nd (piv_rev (by rfl) z_reversed (pev_ixA u1 (pev_var 0) pev_int)) (blkOk_by (own := [("letter", 1)]) (N := N_undone) (sc := defScope sf_undone) (by decide +kernel)) (fun _ _ _ _ _ => (pgv_name 1 nd)) (fun _ _ _ _ _ => ptsv_nil) (fun _ _ _ _ _ => (pev_un un_neg us_neg (pev_var 1)))) (pav_nil (x := false)))) (pav_nil (x := true)))))))
  case hw => decide
theorem ok_mirrored {a : Addr} {fd : FuncData} (F : Fun K "mirrored" "mirrored" sf_mirrored a fd) (z_tuple : mg "tuple" = none) : FnV P w K mg base 1 a fd ["braid"] 0 F_mirrored := by
  refine' fnv F sc_mirrored (by decide) ?hw fun cdv A outer s H E hr => ?hb
  case hb =>
    have nd := sc_mirrored.nd
    have u1 := Nat.lt_of_le_of_lt (Nat.add_le_add_left (show 1 ≤ 16 * 0 + 200 by decide) _) hr.un
    have u64 := Nat.lt_of_le_of_lt (Nat.add_le_add_left (show 64 ≤ 16 * 0 + 200 by decide) _) hr.un
    have u65 := Nat.lt_of_le_of_lt (Nat.add_le_add_left (show 65 ≤ 16 * 0 + 200 by decide) _) hr.un
    exact (pssv_one (psv_ret (pev_tup (pav_consX (pev_chk (pev_ixA u1 (pev_var 0) pev_int)) (pav_consX (pev_callTy call_tuple_of cs_tuple (by rfl) z_tuple (by rfl) (pav_cons (pev_lcV (own := [("letter", 1)]) [1] rfl nd (piv_seq (pev_ixA u1 (pev_var 0) pev_int)) (blkOk_by (own := [("letter", 1)]) (N := N_mirrored) (sc := defScope sf_mirrored) (by decide +kernel)) (fun _ _ _ _ _ => (pgv_name 1 nd)) (fun _ _ _ _ _ => ptsv_nil) (fun _ _ _ _ _ => (pev_un un_neg us_neg (pev_var 1)))) (pav_nil (x := false)))) (pav_nil (x := true)))))))
  case hw => decide
theorem ok_turned {a : Addr} {fd : FuncData} (F : Fun K "turned" "turned" sf_turned a fd) (z_abs : mg "abs" = none) (z_tuple : mg "tuple" = none) {a_signum : Addr} {fd_signum : FuncData} (G_signum : FnV P w K mg base 1 a_signum fd_signum ["number"] 0 F_signum) (bi_signum : Binds K fd_signum ["number"] []) (gm_signum : mg "signum" = some (.ref a_signum)) (kp_signum : PySem.W.keepIn K (.ref a_signum) = true) : FnV P w K mg base 2 a fd ["braid"] 0 F_turned := by
  refine' fnv F sc_turned (by decide) ?hw fun cdv A outer s H E hr => ?hb
  case hb =>
    have nd := sc_turned.nd
    have u1 := Nat.lt_of_le_of_lt (Nat.add_le_add_left (show 1 ≤ 16 * 1 + 200 by decide) _) hr.un
    have u64 := Nat.lt_of_le_of_lt (Nat.add_le_add_left (show 64 ≤ 16 * 1 + 200 by decide) _) hr.un
    have u65 := Nat.lt_of_le_of_lt (Nat.add_le_add_left (show 65 ≤ 16 * 1 + 200 by decide) _) hr.un
    exact (pssv_cons (psv_set 1 nd (pev_chk (pev_ixA u1 (pev_var 0) pev_int)))
    (pssv_one (psv_ret (pev_tup (pav_consX (pev_ali 1) (pav_consX (pev_callTy call_tuple_of cs_tuple (by rfl) z_tuple (by rfl) (pav_cons (pev_lcV (own := [("letter", 2)]) [2] rfl nd (piv_seq (pev_ixA u1 (pev_var 0) pev_int)) (blkOk_by (own := [("letter", 2)]) (N := N_turned) (sc := defScope sf_turned) (by decide +kernel)) (fun _ _ _ _ _ => (pgv_name 2 nd)) (fun _ _ _ _ _ => ptsv_nil) (fun _ _ _ _ _ => (pev_op op_mulA os_mul (pev_call G_signum runF_ok (hr.mono (by decide)) (by rfl) gm_signum kp_signum bi_signum (pav_cons (pev_var 2) (pav_nil (x := false)))) (pev_op op_sub os_I (pev_var 1) (pev_callB call_abs cs_abs (by rfl) z_abs (by rfl) (pav_cons (pev_var 2) (pav_nil (x := false)))))))) (pav_nil (x := false)))) (pav_nil (x := true))))))))
  case hw => decide
theorem ok_from_below {a : Addr} {fd : FuncData} (F : Fun K "from_below" "from_below" sf_from_below a fd) (z_reversed : mg "reversed" = none) (z_tuple : mg "tuple" = none) : FnV P w K mg base 1 a fd ["braid"] 0 F_from_below := by
  refine' fnv F sc_from_below (by decide) ?hw fun cdv A outer s H E hr => ?hb
  case hb =>
    have nd := sc_from_below.nd
    have u1 := Nat.lt_of_le_of_lt (Nat.add_le_add_left (show 1 ≤ 16 * 0 + 200 by decide) _) hr.un
    have u64 := Nat.lt_of_le_of_lt (Nat.add_le_add_left (show 64 ≤ 16 * 0 + 200 by decide) _) hr.un
    have u65 := Nat.lt_of_le_of_lt (Nat.add_le_add_left (show 65 ≤ 16 * 0 + 200 by decide) _) hr.un
    exact (pssv_one (psv_ret (pev_tup (pav_consX (pev_chk (pev_ixA u1 (pev_var 0) pev_int)) (pav_consX (pev_tupRev rfl (by rfl) z_tuple (by rfl) z_reversed (pev_ixA u1 (pev_var 0) pev_int)) (pav_nil (x := true)))))))
  case hw => decide
theorem ok_repeated_1 {a : Addr} {fd : FuncData} (F : Fun K "repeated" "repeated" sf_repeated a fd) (bi_repeated : Binds K fd ["braid", "count"] []) (gm_repeated : mg "repeated" = some (.ref a)) (kp_repeated : PySem.W.keepIn K (.ref a) = true) {a_undone : Addr} {fd_undone : FuncData} (G_undone : FnV P w K mg base 1 a_undone fd_undone ["braid"] 0 F_undone) (bi_undone : Binds K fd_undone ["braid"] []) (gm_undone : mg "undone" = some (.ref a_undone)) (kp_undone : PySem.W.keepIn K (.ref a_undone) = true) : FnV P w K mg base 2 a fd ["braid", "count"] 0 F_repeated_1 := by
  have G_repeated : FnV P w K mg base 1 a fd ["braid", "count"] 0 F_repeated_0 := fnv_none
  refine' fnv F sc_repeated (by decide) ?hw fun cdv A outer s H E hr => ?hb
  case hb =>
    have nd := sc_repeated.nd
    have u1 := Nat.lt_of_le_of_lt (Nat.add_le_add_left (show 1 ≤ 16 * 1 + 200 by decide) _) hr.un
    have u64 := Nat.lt_of_le_of_lt (Nat.add_le_add_left (show 64 ≤ 16 * 1 + 200 by decide) _) hr.un
    have u65 := Nat.lt_of_le_of_lt (Nat.add_le_add_left (show 65 ≤ 16 * 1 + 200 by decide) _) hr.un
    exact (pssv_cons (psv_if (ptv_cmp op_lt os_B (pev_var 1) pev_int (nomark _)) (pssv_one (psv_ret (pev_call G_repeated runF_ok (hr.mono (by decide)) (by rfl) gm_repeated kp_repeated bi_repeated (pav_cons (pev_call G_undone runF_ok (hr.mono (by decide)) (by rfl) gm_undone kp_undone bi_undone (pav_cons (pev_var 0) (pav_nil (x := false)))) (pav_cons (pev_un un_neg us_neg (pev_var 1)) (pav_nil (x := false))))))) pssv_nil)
    (pssv_one (psv_ret (pev_tup (pav_consX (pev_chk (pev_ixA u1 (pev_var 0) pev_int)) (pav_consX (pev_op op_mulA os_mul (pev_ixA u1 (pev_var 0) pev_int) (pev_var 1)) (pav_nil (x := true))))))))
  case hw => decide
theorem ok_repeated {a : Addr} {fd : FuncData} (F : Fun K "repeated" "repeated" sf_repeated a fd) (bi_repeated : Binds K fd ["braid", "count"] []) (gm_repeated : mg "repeated" = some (.ref a)) (kp_repeated : PySem.W.keepIn K (.ref a) = true) {a_undone : Addr} {fd_undone : FuncData} (G_undone : FnV P w K mg base 1 a_undone fd_undone ["braid"] 0 F_undone) (bi_undone : Binds K fd_undone ["braid"] []) (gm_undone : mg "undone" = some (.ref a_undone)) (kp_undone : PySem.W.keepIn K (.ref a_undone) = true) : FnV P w K mg base 3 a fd ["braid", "count"] 0 F_repeated := by
  have G_repeated : FnV P w K mg base 2 a fd ["braid", "count"] 0 F_repeated_1 := ok_repeated_1 F bi_repeated gm_repeated kp_repeated G_undone bi_undone gm_undone kp_undone
  refine' fnv F sc_repeated (by decide) ?hw fun cdv A outer s H E hr => ?hb
  case hb =>
    have nd := sc_repeated.nd
    have u1 := Nat.lt_of_le_of_lt (Nat.add_le_add_left (show 1 ≤ 16 * 2 + 200 by decide) _) hr.un
    have u64 := Nat.lt_of_le_of_lt (Nat.add_le_add_left (show 64 ≤ 16 * 2 + 200 by decide) _) hr.un
    have u65 := Nat.lt_of_le_of_lt (Nat.add_le_add_left (show 65 ≤ 16 * 2 + 200 by decide) _) hr.un
    exact (pssv_cons (psv_if (ptv_cmp op_lt os_B (pev_var 1) pev_int (nomark _)) (pssv_one (psv_ret (pev_call G_repeated runF_ok (hr.mono (by decide)) (by rfl) gm_repeated kp_repeated bi_repeated (pav_cons (pev_call G_undone runF_ok (hr.mono (by decide)) (by rfl) gm_undone kp_undone bi_undone (pav_cons (pev_var 0) (pav_nil (x := false)))) (pav_cons (pev_un un_neg us_neg (pev_var 1)) (pav_nil (x := false))))))) pssv_nil)
    (pssv_one (psv_ret (pev_tup (pav_consX (pev_chk (pev_ixA u1 (pev_var 0) pev_int)) (pav_consX (pev_op op_mulA os_mul (pev_ixA u1 (pev_var 0) pev_int) (pev_var 1)) (pav_nil (x := true))))))))
  case hw => decide
theorem ok_freely_reduced {a : Addr} {fd : FuncData} (F : Fun K "freely_reduced" "freely_reduced" sf_freely_reduced a fd) (z_tuple : mg "tuple" = none) : FnV P w K mg base 1 a fd ["braid"] 0 F_freely_reduced := by
  refine' fnv F sc_freely_reduced (by decide) ?hw fun cdv A outer s H E hr => ?hb
  case hb =>
    have nd := sc_freely_reduced.nd
    have u1 := Nat.lt_of_le_of_lt (Nat.add_le_add_left (show 1 ≤ 16 * 0 + 200 by decide) _) hr.un
    have u64 := Nat.lt_of_le_of_lt (Nat.add_le_add_left (show 64 ≤ 16 * 0 + 200 by decide) _) hr.un
    have u65 := Nat.lt_of_le_of_lt (Nat.add_le_add_left (show 65 ≤ 16 * 0 + 200 by decide) _) hr.un
    exact (pssv_cons (psv_set 1 nd (pev_lst (pav_nil (x := true))))
    (pssv_cons (psv_for PassesOwn.never rfl (piv_seq (pev_ixA u1 (pev_var 0) pev_int)) (pgv_name 2 nd) (pssv_one (psv_if (ptv_w (pwv_and (ptv_tr (pev_var 1)) (pwv_and1 (ptv_cmp (op_eqD u64) os_eq (pev_ixA u1 (pev_var 1) (pev_un un_neg us_neg pev_int)) (pev_un un_neg us_neg (pev_var 2)) (nomark _))))) (pssv_one (psv_expr (pev_bm0 1 PySem.F.plainAttrs_list PySem.F.slot_list_pop PySem.F.type_list_pop mt_pop mu_pop))) (pssv_one (psv_expr (pev_bm 1 PySem.F.plainAttrs_list PySem.F.slot_list_append PySem.F.type_list_append mt_append mu_append (pav_consX (pev_ali 2) (pav_nil (x := true)))))))))
    (pssv_one (psv_ret (pev_tup (pav_consX (pev_chk (pev_ixA u1 (pev_var 0) pev_int)) (pav_consX (pev_callTy call_tuple_of cs_tuple (by rfl) z_tuple (by rfl) (pav_cons (pev_var 1) (pav_nil (x := false)))) (pav_nil (x := true)))))))))
  case hw => decide
theorem ok_exponent_sum {a : Addr} {fd : FuncData} (F : Fun K "exponent_sum" "exponent_sum" sf_exponent_sum a fd) (z_sum : mg "sum" = none) {a_signum : Addr} {fd_signum : FuncData} (G_signum : FnV P w K mg base 1 a_signum fd_signum ["number"] 0 F_signum) (bi_signum : Binds K fd_signum ["number"] []) (gm_signum : mg "signum" = some (.ref a_signum)) (kp_signum : PySem.W.keepIn K (.ref a_signum) = true) : FnV P w K mg base 2 a fd ["braid"] 0 F_exponent_sum := by
  refine' fnv F sc_exponent_sum (by decide) ?hw fun cdv A outer s H E hr => ?hb
  case hb =>
    have nd := sc_exponent_sum.nd
    have u1 := Nat.lt_of_le_of_lt (Nat.add_le_add_left (show 1 ≤ 16 * 1 + 200 by decide) _) hr.un
    have u64 := Nat.lt_of_le_of_lt (Nat.add_le_add_left (show 64 ≤ 16 * 1 + 200 by decide) _) hr.un
    have u65 := Nat.lt_of_le_of_lt (Nat.add_le_add_left (show 65 ≤ 16 * 1 + 200 by decide) _) hr.un
    exact (pssv_one (psv_ret (pev_callB (cr_sum rfl) cs_sum (by rfl) z_sum (by rfl) (pav_cons (pev_lcV (own := [("letter", 1)]) [1] rfl nd (piv_seq (pev_ixA u1 (pev_var 0) pev_int)) (blkOk_by (own := [("letter", 1)]) (N := N_exponent_sum) (sc := defScope sf_exponent_sum) (by decide +kernel)) (fun _ _ _ _ _ => (pgv_name 1 nd)) (fun _ _ _ _ _ => ptsv_nil) (fun _ _ _ _ _ => (pev_call G_signum runF_ok (hr.mono (by decide)) (by rfl) gm_signum kp_signum bi_signum (pav_cons (pev_var 1) (pav_nil (x := false)))))) (pav_nil (x := false))))))
  case hw => decide
theorem ok_order_of {a : Addr} {fd : FuncData} (F : Fun K "order_of" "order_of" sf_order_of a fd) (z_abs : mg "abs" = none) {a_straight : Addr} {fd_straight : FuncData} (G_straight : FnV P w K mg base 1 a_straight fd_straight ["size"] 0 F_straight) (bi_straight : Binds K fd_straight ["size"] []) (gm_straight : mg "straight" = some (.ref a_straight)) (kp_straight : PySem.W.keepIn K (.ref a_straight) = true) {a_after : Addr} {fd_after : FuncData} (G_after : FnV P w K mg base 1 a_after fd_after ["one", "other"] 0 F_after) (bi_after : Binds K fd_after ["one", "other"] []) (gm_after : mg "after" = some (.ref a_after)) (kp_after : PySem.W.keepIn K (.ref a_after) = true) {a_swap : Addr} {fd_swap : FuncData} (G_swap : FnV P w K mg base 1 a_swap fd_swap ["size", "place"] 0 F_swap) (bi_swap : Binds K fd_swap ["size", "place"] []) (gm_swap : mg "swap" = some (.ref a_swap)) (kp_swap : PySem.W.keepIn K (.ref a_swap) = true) : FnV P w K mg base 2 a fd ["braid"] 0 F_order_of := by
  refine' fnv F sc_order_of (by decide) ?hw fun cdv A outer s H E hr => ?hb
  case hb =>
    have nd := sc_order_of.nd
    have u1 := Nat.lt_of_le_of_lt (Nat.add_le_add_left (show 1 ≤ 16 * 1 + 200 by decide) _) hr.un
    have u64 := Nat.lt_of_le_of_lt (Nat.add_le_add_left (show 64 ≤ 16 * 1 + 200 by decide) _) hr.un
    have u65 := Nat.lt_of_le_of_lt (Nat.add_le_add_left (show 65 ≤ 16 * 1 + 200 by decide) _) hr.un
    exact (pssv_cons (psv_set 1 nd (pev_call G_straight runF_ok (hr.mono (by decide)) (by rfl) gm_straight kp_straight bi_straight (pav_cons (pev_ixA u1 (pev_var 0) pev_int) (pav_nil (x := false)))))
    (pssv_cons (psv_for PassesOwn.never rfl (piv_seq (pev_ixA u1 (pev_var 0) pev_int)) (pgv_name 2 nd) (pssv_one (psv_set 1 nd (pev_call G_after runF_ok (hr.mono (by decide)) (by rfl) gm_after kp_after bi_after (pav_cons (pev_var 1) (pav_cons (pev_call G_swap runF_ok (hr.mono (by decide)) (by rfl) gm_swap kp_swap bi_swap (pav_cons (pev_ixA u1 (pev_var 0) pev_int) (pav_cons (pev_callB call_abs cs_abs (by rfl) z_abs (by rfl) (pav_cons (pev_var 2) (pav_nil (x := false)))) (pav_nil (x := false))))) (pav_nil (x := false))))))))
    (pssv_one (psv_ret (pev_mov 1)))))
  case hw => decide
theorem ok_component_count {a : Addr} {fd : FuncData} (F : Fun K "component_count" "component_count" sf_component_count a fd) (z_len : mg "len" = none) {a_circles : Addr} {fd_circles : FuncData} (G_circles : FnV P w K mg base 1 a_circles fd_circles ["one"] 0 F_circles) (bi_circles : Binds K fd_circles ["one"] []) (gm_circles : mg "circles" = some (.ref a_circles)) (kp_circles : PySem.W.keepIn K (.ref a_circles) = true) {a_order_of : Addr} {fd_order_of : FuncData} (G_order_of : FnV P w K mg base 2 a_order_of fd_order_of ["braid"] 0 F_order_of) (bi_order_of : Binds K fd_order_of ["braid"] []) (gm_order_of : mg "order_of" = some (.ref a_order_of)) (kp_order_of : PySem.W.keepIn K (.ref a_order_of) = true) : FnV P w K mg base 3 a fd ["braid"] 0 F_component_count := by
  refine' fnv F sc_component_count (by decide) ?hw fun cdv A outer s H E hr => ?hb
  case hb =>
    have nd := sc_component_count.nd
    have u1 := Nat.lt_of_le_of_lt (Nat.add_le_add_left (show 1 ≤ 16 * 2 + 200 by decide) _) hr.un
    have u64 := Nat.lt_of_le_of_lt (Nat.add_le_add_left (show 64 ≤ 16 * 2 + 200 by decide) _) hr.un
    have u65 := Nat.lt_of_le_of_lt (Nat.add_le_add_left (show 65 ≤ 16 * 2 + 200 by decide) _) hr.un
    exact (pssv_one (psv_ret (pev_callB call_lenV cs_len (by rfl) z_len (by rfl) (pav_cons (pev_call G_circles runF_ok (hr.mono (by decide)) (by rfl) gm_circles kp_circles bi_circles (pav_cons (pev_call G_order_of runF_ok (hr.mono (by decide)) (by rfl) gm_order_of kp_order_of bi_order_of (pav_cons (pev_var 0) (pav_nil (x := false)))) (pav_nil (x := false)))) (pav_nil (x := false))))))
  case hw => decide
theorem ok_crossing_table {a : Addr} {fd : FuncData} (F : Fun K "crossing_table" "crossing_table" sf_crossing_table a fd) (z_abs : mg "abs" = none) (z_list : mg "list" = none) (z_range : mg "range" = none) (z_sorted : mg "sorted" = none) (z_tuple : mg "tuple" = none) {a_signum : Addr} {fd_signum : FuncData} (G_signum : FnV P w K mg base 1 a_signum fd_signum ["number"] 0 F_signum) (bi_signum : Binds K fd_signum ["number"] []) (gm_signum : mg "signum" = some (.ref a_signum)) (kp_signum : PySem.W.keepIn K (.ref a_signum) = true) : FnV P w K mg base 2 a fd ["braid"] 0 F_crossing_table := by
  refine' fnv F sc_crossing_table (by decide) ?hw fun cdv A outer s H E hr => ?hb
  case hb =>
    have nd := sc_crossing_table.nd
    have u1 := Nat.lt_of_le_of_lt (Nat.add_le_add_left (show 1 ≤ 16 * 1 + 200 by decide) _) hr.un
    have u64 := Nat.lt_of_le_of_lt (Nat.add_le_add_left (show 64 ≤ 16 * 1 + 200 by decide) _) hr.un
    have u65 := Nat.lt_of_le_of_lt (Nat.add_le_add_left (show 65 ≤ 16 * 1 + 200 by decide) _) hr.un
    exact (pssv_cons (psv_set 1 nd (pev_chk (pev_ixA u1 (pev_var 0) pev_int)))
    (pssv_cons (psv_set 2 nd (pev_lstRg rfl (by rfl) z_list (prv_2 (by rfl) z_range pev_int (pev_op op_addV os_add (pev_var 1) pev_int))))
    (pssv_cons (psv_set 3 nd pev_dnewT)
    (pssv_cons (psv_for PassesOwn.never rfl (piv_seq (pev_ixA u1 (pev_var 0) pev_int)) (pgv_name 4 nd) (pssv_cons (psv_set 5 nd (pev_callB call_abs cs_abs (by rfl) z_abs (by rfl) (pav_cons (pev_var 4) (pav_nil (x := false)))))
    (pssv_cons (psv_set 6 nd (pev_callTy call_tuple_of cs_tuple (by rfl) z_tuple (by rfl) (pav_cons (pev_callB cr_sortedI cs_sortedI (by rfl) z_sorted (by rfl) (pav_cons (pev_lst (pav_consX (pev_chk (pev_ixA u1 (pev_var 2) (pev_op op_sub os_I (pev_var 5) pev_int))) (pav_consX (pev_chk (pev_ixA u1 (pev_var 2) (pev_var 5))) (pav_nil (x := true))))) (pav_nil (x := false)))) (pav_nil (x := false)))))
    (pssv_cons (psv_asg (pev_op op_addV os_add (pev_get2 u1 (pev_var 3) (pev_var 6) pev_int) (pev_call G_signum runF_ok (hr.mono (by decide)) (by rfl) gm_signum kp_signum bi_signum (pav_cons (pev_var 4) (pav_nil (x := false))))) (pgv_sub 3 u1 (pev_var 6)))
    (pssv_one (psv_asg (pev_tup (pav_consX (pev_chk (pev_ixA u1 (pev_var 2) (pev_var 5))) (pav_consX (pev_chk (pev_ixA u1 (pev_var 2) (pev_op op_sub os_I (pev_var 5) pev_int))) (pav_nil (x := true))))) (pgv_tup rfl (pgsv_cons (pgv_sub 2 u1 (pev_op op_sub os_I (pev_var 5) pev_int)) (pgsv_cons (pgv_sub 2 u1 (pev_var 5)) pgsv_nil)))))))))
    (pssv_one (psv_ret (pev_mov 3)))))))
  case hw => decide
theorem ok_is_pure {a : Addr} {fd : FuncData} (F : Fun K "is_pure" "is_pure" sf_is_pure a fd) {a_order_of : Addr} {fd_order_of : FuncData} (G_order_of : FnV P w K mg base 2 a_order_of fd_order_of ["braid"] 0 F_order_of) (bi_order_of : Binds K fd_order_of ["braid"] []) (gm_order_of : mg "order_of" = some (.ref a_order_of)) (kp_order_of : PySem.W.keepIn K (.ref a_order_of) = true) {a_straight : Addr} {fd_straight : FuncData} (G_straight : FnV P w K mg base 1 a_straight fd_straight ["size"] 0 F_straight) (bi_straight : Binds K fd_straight ["size"] []) (gm_straight : mg "straight" = some (.ref a_straight)) (kp_straight : PySem.W.keepIn K (.ref a_straight) = true) : FnV P w K mg base 3 a fd ["braid"] 0 F_is_pure := by
  refine' fnv F sc_is_pure (by decide) ?hw fun cdv A outer s H E hr => ?hb
  case hb =>
    have nd := sc_is_pure.nd
    have u1 := Nat.lt_of_le_of_lt (Nat.add_le_add_left (show 1 ≤ 16 * 2 + 200 by decide) _) hr.un
    have u64 := Nat.lt_of_le_of_lt (Nat.add_le_add_left (show 64 ≤ 16 * 2 + 200 by decide) _) hr.un
    have u65 := Nat.lt_of_le_of_lt (Nat.add_le_add_left (show 65 ≤ 16 * 2 + 200 by decide) _) hr.un
    exact (pssv_one (psv_ret (pev_cmp (op_eqD u64) os_eq (pev_call G_order_of runF_ok (hr.mono (by decide)) (by rfl) gm_order_of kp_order_of bi_order_of (pav_cons (pev_var 0) (pav_nil (x := false)))) (pev_call G_straight runF_ok (hr.mono (by decide)) (by rfl) gm_straight kp_straight bi_straight (pav_cons (pev_ixA u1 (pev_var 0) pev_int) (pav_nil (x := false)))) (nomark _))))
  case hw => decide
theorem ok_braid_linking_rows {a : Addr} {fd : FuncData} (F : Fun K "braid_linking_rows" "braid_linking_rows" sf_braid_linking_rows a fd) (z_enumerate : mg "enumerate" = none) (z_len : mg "len" = none) (z_tuple : mg "tuple" = none) {a_circles : Addr} {fd_circles : FuncData} (G_circles : FnV P w K mg base 1 a_circles fd_circles ["one"] 0 F_circles) (bi_circles : Binds K fd_circles ["one"] []) (gm_circles : mg "circles" = some (.ref a_circles)) (kp_circles : PySem.W.keepIn K (.ref a_circles) = true) {a_order_of : Addr} {fd_order_of : FuncData} (G_order_of : FnV P w K mg base 2 a_order_of fd_order_of ["braid"] 0 F_order_of) (bi_order_of : Binds K fd_order_of ["braid"] []) (gm_order_of : mg "order_of" = some (.ref a_order_of)) (kp_order_of : PySem.W.keepIn K (.ref a_order_of) = true) {a_crossing_table : Addr} {fd_crossing_table : FuncData} (G_crossing_table : FnV P w K mg base 2 a_crossing_table fd_crossing_table ["braid"] 0 F_crossing_table) (bi_crossing_table : Binds K fd_crossing_table ["braid"] []) (gm_crossing_table : mg "crossing_table" = some (.ref a_crossing_table)) (kp_crossing_table : PySem.W.keepIn K (.ref a_crossing_table) = true) : FnV P w K mg base 3 a fd ["braid"] 0 F_braid_linking_rows := by
  refine' fnv F sc_braid_linking_rows (by decide) ?hw fun cdv A outer s H E hr => ?hb
  case hb =>
    have nd := sc_braid_linking_rows.nd
    have u1 := Nat.lt_of_le_of_lt (Nat.add_le_add_left (show 1 ≤ 16 * 2 + 200 by decide) _) hr.un
    have u64 := Nat.lt_of_le_of_lt (Nat.add_le_add_left (show 64 ≤ 16 * 2 + 200 by decide) _) hr.un
    have u65 := Nat.lt_of_le_of_lt (Nat.add_le_add_left (show 65 ≤ 16 * 2 + 200 by decide) _) hr.un
    exact (pssv_cons (psv_set 1 nd (pev_call G_circles runF_ok (hr.mono (by decide)) (by rfl) gm_circles kp_circles bi_circles (pav_cons (pev_call G_order_of runF_ok (hr.mono (by decide)) (by rfl) gm_order_of kp_order_of bi_order_of (pav_cons (pev_var 0) (pav_nil (x := false)))) (pav_nil (x := false)))))
    (pssv_cons (psv_set 2 nd pev_dnew)
    (pssv_cons (psv_for PassesOwn.never rfl (piv_enum (by rfl) z_enumerate (pev_var 1)) (pgv_tup rfl (pgsv_cons (pgv_name 3 nd) (pgsv_cons (pgv_name 4 nd) pgsv_nil))) (pssv_one (psv_for PassesOwn.never rfl (piv_seq (pev_var 4)) (pgv_name 5 nd) (pssv_one (psv_asg (pev_var 3) (pgv_sub 2 u1 (pev_var 5)))))))
    (pssv_cons (psv_setLc (own := [("_", 7)]) 6 rfl nd (sw_true rfl rfl rfl (by decide +kernel)) (piv_seq (pev_var 1)) (blkOk_by (own := [("_", 7)]) (N := N_braid_linking_rows) (sc := defScope sf_braid_linking_rows) (by decide +kernel)) (fun _ _ _ _ _ => (pgv_name 7 nd)) (fun _ _ _ _ _ => ptsv_nil) (fun _ _ _ _ _ => (pev_op op_mulA os_mul (pev_lst (pav_consX pev_int (pav_nil (x := true)))) (pev_callB call_lenV cs_len (by rfl) z_len (by rfl) (pav_cons (pev_var 1) (pav_nil (x := false)))))))
    (pssv_cons (psv_for PassesOwn.never rfl (piv_itemsT (pev_call G_crossing_table runF_ok (hr.mono (by decide)) (by rfl) gm_crossing_table kp_crossing_table bi_crossing_table (pav_cons (pev_var 0) (pav_nil (x := false))))) (pgv_tup rfl (pgsv_cons (pgv_name 8 nd) (pgsv_cons (pgv_name 5 nd) pgsv_nil))) (pssv_cons (psv_set 9 nd (pev_chk (pev_ixA u1 (pev_var 2) (pev_ixA u1 (pev_var 8) pev_int))))
    (pssv_cons (psv_set 10 nd (pev_chk (pev_ixA u1 (pev_var 2) (pev_ixA u1 (pev_var 8) pev_int))))
    (pssv_one (psv_if (ptv_cmp (op_neD u64) os_ne (pev_var 9) (pev_var 10) (nomark _)) (pssv_cons (psv_augSS 6 u1 ip_addT os_addT (pev_var 9) (pev_var 10) (pev_var 5))
    (pssv_one (psv_augSS 6 u1 ip_addT os_addT (pev_var 10) (pev_var 9) (pev_var 5)))) pssv_nil)))))
    (pssv_one (psv_ret (pev_callTy call_tuple_of cs_tuple (by rfl) z_tuple (by rfl) (pav_cons (pev_lcV (own := [("row", 11)]) [11] rfl nd (piv_seq (pev_ali 6)) (blkOk_by (own := [("row", 11)]) (N := N_braid_linking_rows) (sc := defScope sf_braid_linking_rows) (by decide +kernel)) (fun _ _ _ _ _ => (pgv_name 11 nd)) (fun _ _ _ _ _ => ptsv_nil) (fun _ _ _ _ _ => (pev_callTy call_tuple_of cs_tuple (by rfl) z_tuple (by rfl) (pav_cons (pev_var 11) (pav_nil (x := false)))))) (pav_nil (x := false)))))))))))
  case hw => decide
theorem ok_widened {a : Addr} {fd : FuncData} (F : Fun K "widened" "widened" sf_widened a fd) : FnV P w K mg base 1 a fd ["braid", "strands"] 0 F_widened := by
  refine' fnv F sc_widened (by decide) ?hw fun cdv A outer s H E hr => ?hb
  case hb =>
    have nd := sc_widened.nd
    have u1 := Nat.lt_of_le_of_lt (Nat.add_le_add_left (show 1 ≤ 16 * 0 + 200 by decide) _) hr.un
    have u64 := Nat.lt_of_le_of_lt (Nat.add_le_add_left (show 64 ≤ 16 * 0 + 200 by decide) _) hr.un
    have u65 := Nat.lt_of_le_of_lt (Nat.add_le_add_left (show 65 ≤ 16 * 0 + 200 by decide) _) hr.un
    exact (pssv_one (psv_ret (pev_tup (pav_consX (pev_ali 1) (pav_consX (pev_chk (pev_ixA u1 (pev_var 0) pev_int)) (pav_nil (x := true)))))))
  case hw => decide
theorem ok_shifted {a : Addr} {fd : FuncData} (F : Fun K "shifted" "shifted" sf_shifted a fd) (z_tuple : mg "tuple" = none) : FnV P w K mg base 1 a fd ["braid", "count"] 0 F_shifted := by
  refine' fnv F sc_shifted (by decide) ?hw fun cdv A outer s H E hr => ?hb
  case hb =>
    have nd := sc_shifted.nd
    have u1 := Nat.lt_of_le_of_lt (Nat.add_le_add_left (show 1 ≤ 16 * 0 + 200 by decide) _) hr.un
    have u64 := Nat.lt_of_le_of_lt (Nat.add_le_add_left (show 64 ≤ 16 * 0 + 200 by decide) _) hr.un
    have u65 := Nat.lt_of_le_of_lt (Nat.add_le_add_left (show 65 ≤ 16 * 0 + 200 by decide) _) hr.un
    exact (pssv_cons (psv_setLc (own := [("letter", 3)]) 2 rfl nd (sw_true rfl rfl rfl (by decide +kernel)) (piv_seq (pev_ixA u1 (pev_var 0) pev_int)) (blkOk_by (own := [("letter", 3)]) (N := N_shifted) (sc := defScope sf_shifted) (by decide +kernel)) (fun _ _ _ _ _ => (pgv_name 3 nd)) (fun _ _ _ _ _ => ptsv_nil) (fun _ _ _ _ _ => (pev_ifX (ptv_cmp op_gt os_B (pev_var 3) pev_int (nomark _)) (pev_op op_addV os_add (pev_var 3) (pev_var 1)) (pev_op op_sub os_I (pev_var 3) (pev_var 1)))))
    (pssv_one (psv_ret (pev_tup (pav_consX (pev_op op_addV os_add (pev_ixA u1 (pev_var 0) pev_int) (pev_var 1)) (pav_consX (pev_callTy call_tuple_of cs_tuple (by rfl) z_tuple (by rfl) (pav_cons (pev_var 2) (pav_nil (x := false)))) (pav_nil (x := true))))))))
  case hw => decide
theorem ok_beside {a : Addr} {fd : FuncData} (F : Fun K "beside" "beside" sf_beside a fd) {a_shifted : Addr} {fd_shifted : FuncData} (G_shifted : FnV P w K mg base 1 a_shifted fd_shifted ["braid", "count"] 0 F_shifted) (bi_shifted : Binds K fd_shifted ["braid", "count"] []) (gm_shifted : mg "shifted" = some (.ref a_shifted)) (kp_shifted : PySem.W.keepIn K (.ref a_shifted) = true) : FnV P w K mg base 2 a fd ["one", "other"] 0 F_beside := by
  refine' fnv F sc_beside (by decide) ?hw fun cdv A outer s H E hr => ?hb
  case hb =>
    have nd := sc_beside.nd
    have u1 := Nat.lt_of_le_of_lt (Nat.add_le_add_left (show 1 ≤ 16 * 1 + 200 by decide) _) hr.un
    have u64 := Nat.lt_of_le_of_lt (Nat.add_le_add_left (show 64 ≤ 16 * 1 + 200 by decide) _) hr.un
    have u65 := Nat.lt_of_le_of_lt (Nat.add_le_add_left (show 65 ≤ 16 * 1 + 200 by decide) _) hr.un
    exact (pssv_cons (psv_set 2 nd (pev_op op_addV os_add (pev_ixA u1 (pev_var 0) pev_int) (pev_ixA u1 (pev_var 1) pev_int)))
    (pssv_one (psv_ret (pev_tup (pav_consX (pev_ali 2) (pav_consX (pev_op op_addV os_add (pev_ixA u1 (pev_var 0) pev_int) (pev_ixA u1 (pev_call G_shifted runF_ok (hr.mono (by decide)) (by rfl) gm_shifted kp_shifted bi_shifted (pav_cons (pev_var 1) (pav_cons (pev_ixA u1 (pev_var 0) pev_int) (pav_nil (x := false))))) pev_int)) (pav_nil (x := true))))))))
  case hw => decide
theorem ok_full_twist {a : Addr} {fd : FuncData} (F : Fun K "full_twist" "full_twist" sf_full_twist a fd) (z_range : mg "range" = none) (z_tuple : mg "tuple" = none) : FnV P w K mg base 1 a fd ["strands"] 0 F_full_twist := by
  refine' fnv F sc_full_twist (by decide) ?hw fun cdv A outer s H E hr => ?hb
  case hb =>
    have nd := sc_full_twist.nd
    have u1 := Nat.lt_of_le_of_lt (Nat.add_le_add_left (show 1 ≤ 16 * 0 + 200 by decide) _) hr.un
    have u64 := Nat.lt_of_le_of_lt (Nat.add_le_add_left (show 64 ≤ 16 * 0 + 200 by decide) _) hr.un
    have u65 := Nat.lt_of_le_of_lt (Nat.add_le_add_left (show 65 ≤ 16 * 0 + 200 by decide) _) hr.un
    exact (pssv_one (psv_ret (pev_tup (pav_consX (pev_ali 0) (pav_consX (pev_op op_mulA os_mul (pev_tupRg rfl (by rfl) z_tuple (prv_2 (by rfl) z_range pev_int (pev_var 0))) (pev_var 0)) (pav_nil (x := true)))))))
  case hw => decide
theorem ok_half_twist {a : Addr} {fd : FuncData} (F : Fun K "half_twist" "half_twist" sf_half_twist a fd) (z_list : mg "list" = none) (z_range : mg "range" = none) (z_tuple : mg "tuple" = none) : FnV P w K mg base 1 a fd ["strands"] 0 F_half_twist := by
  refine' fnv F sc_half_twist (by decide) ?hw fun cdv A outer s H E hr => ?hb
  case hb =>
    have nd := sc_half_twist.nd
    have u1 := Nat.lt_of_le_of_lt (Nat.add_le_add_left (show 1 ≤ 16 * 0 + 200 by decide) _) hr.un
    have u64 := Nat.lt_of_le_of_lt (Nat.add_le_add_left (show 64 ≤ 16 * 0 + 200 by decide) _) hr.un
    have u65 := Nat.lt_of_le_of_lt (Nat.add_le_add_left (show 65 ≤ 16 * 0 + 200 by decide) _) hr.un
    exact (pssv_cons (psv_set 1 nd (pev_lst (pav_nil (x := true))))
    (pssv_cons (psv_for PassesOwn.never rfl (piv_range3 (by rfl) z_range (pav_cons (pev_op op_sub os_I (pev_var 0) pev_int) (pav_cons pev_int (pav_cons (pev_un un_neg us_neg pev_int) (pav_nil (x := false)))))) (pgv_name 2 nd) (pssv_one (psv_expr (pev_bm 1 PySem.F.plainAttrs_list PySem.F.slot_list_extend PySem.F.type_list_extend mt_extB mu_extend (pav_consX (pev_frz (pev_lstRg rfl (by rfl) z_list (prv_2 (by rfl) z_range pev_int (pev_op op_addV os_add (pev_var 2) pev_int)))) (pav_nil (x := true)))))))
    (pssv_one (psv_ret (pev_tup (pav_consX (pev_ali 0) (pav_consX (pev_callTy call_tuple_of cs_tuple (by rfl) z_tuple (by rfl) (pav_cons (pev_var 1) (pav_nil (x := false)))) (pav_nil (x := true)))))))))
  case hw => decide
theorem ok_torus_braid {a : Addr} {fd : FuncData} (F : Fun K "torus_braid" "torus_braid" sf_torus_braid a fd) (z_range : mg "range" = none) (z_tuple : mg "tuple" = none) {a_repeated : Addr} {fd_repeated : FuncData} (G_repeated : FnV P w K mg base 3 a_repeated fd_repeated ["braid", "count"] 0 F_repeated) (bi_repeated : Binds K fd_repeated ["braid", "count"] []) (gm_repeated : mg "repeated" = some (.ref a_repeated)) (kp_repeated : PySem.W.keepIn K (.ref a_repeated) = true) : FnV P w K mg base 4 a fd ["strands", "turns"] 0 F_torus_braid := by
  refine' fnv F sc_torus_braid (by decide) ?hw fun cdv A outer s H E hr => ?hb
  case hb =>
    have nd := sc_torus_braid.nd
    have u1 := Nat.lt_of_le_of_lt (Nat.add_le_add_left (show 1 ≤ 16 * 3 + 200 by decide) _) hr.un
    have u64 := Nat.lt_of_le_of_lt (Nat.add_le_add_left (show 64 ≤ 16 * 3 + 200 by decide) _) hr.un
    have u65 := Nat.lt_of_le_of_lt (Nat.add_le_add_left (show 65 ≤ 16 * 3 + 200 by decide) _) hr.un
    exact (pssv_one (psv_ret (pev_call G_repeated runF_ok (hr.mono (by decide)) (by rfl) gm_repeated kp_repeated bi_repeated (pav_cons (pev_tup (pav_consX (pev_ali 0) (pav_consX (pev_tupRg rfl (by rfl) z_tuple (prv_2 (by rfl) z_range pev_int (pev_var 0))) (pav_nil (x := true))))) (pav_cons (pev_var 1) (pav_nil (x := false)))))))
  case hw => decide
theorem ok_doubled {a : Addr} {fd : FuncData} (F : Fun K "doubled" "doubled" sf_doubled a fd) (z_abs : mg "abs" = none) (z_tuple : mg "tuple" = none) {a_signum : Addr} {fd_signum : FuncData} (G_signum : FnV P w K mg base 1 a_signum fd_signum ["number"] 0 F_signum) (bi_signum : Binds K fd_signum ["number"] []) (gm_signum : mg "signum" = some (.ref a_signum)) (kp_signum : PySem.W.keepIn K (.ref a_signum) = true) : FnV P w K mg base 2 a fd ["braid"] 0 F_doubled := by
  refine' fnv F sc_doubled (by decide) ?hw fun cdv A outer s H E hr => ?hb
  case hb =>
    have nd := sc_doubled.nd
    have u1 := Nat.lt_of_le_of_lt (Nat.add_le_add_left (show 1 ≤ 16 * 1 + 200 by decide) _) hr.un
    have u64 := Nat.lt_of_le_of_lt (Nat.add_le_add_left (show 64 ≤ 16 * 1 + 200 by decide) _) hr.un
    have u65 := Nat.lt_of_le_of_lt (Nat.add_le_add_left (show 65 ≤ 16 * 1 + 200 by decide) _) hr.un
    exact (pssv_cons (psv_set 1 nd (pev_lst (pav_nil (x := true))))
    (pssv_cons (psv_for PassesOwn.never rfl (piv_seq (pev_ixA u1 (pev_var 0) pev_int)) (pgv_name 2 nd) (pssv_cons (psv_set 3 nd (pev_op op_mulA os_mul pev_int (pev_callB call_abs cs_abs (by rfl) z_abs (by rfl) (pav_cons (pev_var 2) (pav_nil (x := false))))))
    (pssv_cons (psv_set 4 nd (pev_tup (pav_consX (pev_ali 3) (pav_consX (pev_op op_sub os_I (pev_var 3) pev_int) (pav_consX (pev_op op_addV os_add (pev_var 3) pev_int) (pav_consX (pev_ali 3) (pav_nil (x := true))))))))
    (pssv_one (psv_expr (pev_bm 1 PySem.F.plainAttrs_list PySem.F.slot_list_extend PySem.F.type_list_extend mt_extB mu_extend (pav_consX (pev_frz (pev_lcV (own := [("part", 5)]) [5] rfl nd (piv_seq (pev_var 4)) (blkOk_by (own := [("part", 5)]) (N := N_doubled) (sc := defScope sf_doubled) (by decide +kernel)) (fun _ _ _ _ _ => (pgv_name 5 nd)) (fun _ _ _ _ _ => ptsv_nil) (fun _ _ _ _ _ => (pev_op op_mulA os_mul (pev_call G_signum runF_ok (hr.mono (by decide)) (by rfl) gm_signum kp_signum bi_signum (pav_cons (pev_var 2) (pav_nil (x := false)))) (pev_var 5))))) (pav_nil (x := true)))))))))
    (pssv_one (psv_ret (pev_tup (pav_consX (pev_op op_mulA os_mul pev_int (pev_ixA u1 (pev_var 0) pev_int)) (pav_consX (pev_callTy call_tuple_of cs_tuple (by rfl) z_tuple (by rfl) (pav_cons (pev_var 1) (pav_nil (x := false)))) (pav_nil (x := true)))))))))
  case hw => decide
theorem ok__law_state {a : Addr} {fd : FuncData} (F : Fun K "_law_state" "_law_state" sf__law_state a fd) (z_list : mg "list" = none) : FnV P w K mg base 1 a fd ["script"] 0 F__law_state := by
  refine' fnv F sc__law_state (by decide) ?hw fun cdv A outer s H E hr => ?hb
  case hb =>
    have nd := sc__law_state.nd
    have u1 := Nat.lt_of_le_of_lt (Nat.add_le_add_left (show 1 ≤ 16 * 0 + 200 by decide) _) hr.un
    have u64 := Nat.lt_of_le_of_lt (Nat.add_le_add_left (show 64 ≤ 16 * 0 + 200 by decide) _) hr.un
    have u65 := Nat.lt_of_le_of_lt (Nat.add_le_add_left (show 65 ≤ 16 * 0 + 200 by decide) _) hr.un
    exact (pssv_one (psv_ret (pev_lst (pav_consX (pev_frz (pev_callTy (call_listA rfl) cs_listA (by rfl) z_list (by rfl) (pav_cons (pev_var 0) (pav_nil (x := false))))) (pav_consX pev_int (pav_consX pev_int (pav_consX pev_int (pav_consX pev_bl (pav_consX pev_int (pav_nil (x := true)))))))))))
  case hw => decide
theorem ok__law_draw {a : Addr} {fd : FuncData} (F : Fun K "_law_draw" "_law_draw" sf__law_draw a fd) (z_int : mg "int" = none) (z_len : mg "len" = none) : FnV P w K mg base 1 a fd ["state", "limit"] 1 F__law_draw := by
  refine' fnv F sc__law_draw (by decide) ?hw fun cdv A outer s H E hr => ?hb
  case hb =>
    have nd := sc__law_draw.nd
    have u1 := Nat.lt_of_le_of_lt (Nat.add_le_add_left (show 1 ≤ 16 * 0 + 200 by decide) _) hr.un
    have u64 := Nat.lt_of_le_of_lt (Nat.add_le_add_left (show 64 ≤ 16 * 0 + 200 by decide) _) hr.un
    have u65 := Nat.lt_of_le_of_lt (Nat.add_le_add_left (show 65 ≤ 16 * 0 + 200 by decide) _) hr.un
    exact (pssv_cons (psv_if (ptv_cmp (op_eqD u64) os_eq (pev_ixA u1 (pev_var 0) pev_int) pev_int (nomark _)) (pssv_cons (psv_if (ptv_cmp op_ge os_B (pev_ixA u1 (pev_var 0) pev_int) (pev_callB call_lenV cs_len (by rfl) z_len (by rfl) (pav_cons (pev_ixA u1 (pev_var 0) pev_int) (pav_nil (x := false)))) (nomark _)) (pssv_one (psv_ret pev_int)) pssv_nil)
    (pssv_cons (psv_set 2 nd (pev_chk (pev_ixA u1 (pev_ixA u1 (pev_var 0) pev_int) (pev_ixA u1 (pev_var 0) pev_int))))
    (pssv_cons (psv_if (ptv_cmp op_lt os_B (pev_var 2) pev_int (nomark _)) (pssv_one (psv_set 2 nd (pev_op op_sub os_I (pev_un un_neg us_neg pev_int) (pev_var 2)))) pssv_nil)
    (pssv_cons (psv_asg (pev_op op_addV os_add (pev_ixA u1 (pev_var 0) pev_int) pev_int) (pgv_sub 0 u1 pev_int))
    (pssv_cons (psv_asg (pev_var 2) (pgv_sub 0 u1 pev_int))
    (pssv_cons (psv_asg (pev_cmp op_ge os_B (pev_var 2) (pev_op op_pow os_pow pev_int pev_int) (nomark _)) (pgv_sub 0 u1 pev_int))
    (pssv_cons (psv_asg pev_int (pgv_sub 0 u1 pev_int))
    (pssv_one (psv_if (ptv_tr (pev_ixA u1 (pev_var 0) pev_int)) (pssv_one (psv_asg pev_int (pgv_sub 0 u1 pev_int))) pssv_nil))))))))) pssv_nil)
    (pssv_cons (psv_asg (pev_op op_sub os_I (pev_ixA u1 (pev_var 0) pev_int) pev_int) (pgv_sub 0 u1 pev_int))
    (pssv_cons (psv_if (ptv_tr (pev_ixA u1 (pev_var 0) pev_int)) (pssv_cons (psv_set 3 nd (pev_op op_modN os_mod (pev_callTy call_int1 cs_int (by rfl) z_int (by rfl) (pav_cons (pev_ixA u1 (pev_var 0) pev_int) (pav_nil (x := false)))) (pev_var 1)))
    (pssv_cons (psv_asg (pev_op op_fdivL os_div (pev_ixA u1 (pev_var 0) pev_int) (pev_var 1)) (pgv_sub 0 u1 pev_int))
    (pssv_cons (psv_if (ptv_cmp (op_eqD u64) os_eq (pev_ixA u1 (pev_var 0) pev_int) pev_int (nomark _)) (pssv_one (psv_asg pev_int (pgv_sub 0 u1 pev_int))) pssv_nil)
    (pssv_one (psv_ret (pev_mov 3)))))) pssv_nil)
    (pssv_cons (psv_set 4 nd (pev_op op_modN os_mod (pev_callTy call_int1 cs_int (by rfl) z_int (by rfl) (pav_cons (pev_op op_addV os_add (pev_op op_addV os_add (pev_op op_mulA os_mul (pev_ixA u1 (pev_var 0) pev_int) pev_int) (pev_op op_mulA os_mul (pev_ixA u1 (pev_var 0) pev_int) pev_int)) pev_int) (pav_nil (x := false)))) pev_int))
    (pssv_cons (psv_set 4 nd (pev_op op_modN os_mod (pev_callTy call_int1 cs_int (by rfl) z_int (by rfl) (pav_cons (pev_op op_addV os_add (pev_op op_addV os_add (pev_op op_mulA os_mul (pev_var 4) (pev_var 4)) (pev_op op_mulA os_mul (pev_ixA u1 (pev_var 0) pev_int) pev_int)) (pev_ixA u1 (pev_var 0) pev_int)) (pav_nil (x := false)))) pev_int))
    (pssv_one (psv_ret (pev_op op_modN os_mod (pev_callTy call_int1 cs_int (by rfl) z_int (by rfl) (pav_cons (pev_var 4) (pav_nil (x := false)))) (pev_var 1)))))))))
  case hw => decide
theorem ok__law_truth {a : Addr} {fd : FuncData} (F : Fun K "_law_truth" "_law_truth" sf__law_truth a fd) : FnV P w K mg base 1 a fd ["told", "due"] 0 F__law_truth := by
  refine' fnv F sc__law_truth (by decide) ?hw fun cdv A outer s H E hr => ?hb
  case hb =>
    have nd := sc__law_truth.nd
    have u1 := Nat.lt_of_le_of_lt (Nat.add_le_add_left (show 1 ≤ 16 * 0 + 200 by decide) _) hr.un
    have u64 := Nat.lt_of_le_of_lt (Nat.add_le_add_left (show 64 ≤ 16 * 0 + 200 by decide) _) hr.un
    have u65 := Nat.lt_of_le_of_lt (Nat.add_le_add_left (show 65 ≤ 16 * 0 + 200 by decide) _) hr.un
    exact (pssv_cons (psv_if (ptv_tr (pev_var 1)) (pssv_one (psv_ret (pev_cmp op_isBl os_isB (pev_var 0) pev_bl (nomark _)))) pssv_nil)
    (pssv_one (psv_ret (pev_cmp op_isBl os_isB (pev_var 0) pev_bl (nomark _)))))
  case hw => decide
theorem ok__law_braid {a : Addr} {fd : FuncData} (F : Fun K "_law_braid" "_law_braid" sf__law_braid a fd) (z_range : mg "range" = none) (z_tuple : mg "tuple" = none) {a__law_draw : Addr} {fd__law_draw : FuncData} (G__law_draw : FnV P w K mg base 1 a__law_draw fd__law_draw ["state", "limit"] 1 F__law_draw) (bi__law_draw : Binds K fd__law_draw ["state", "limit"] []) (gm__law_draw : mg "_law_draw" = some (.ref a__law_draw)) (kp__law_draw : PySem.W.keepIn K (.ref a__law_draw) = true) : FnV P w K mg base 2 a fd ["state", "most", "length"] 1 F__law_braid := by
  refine' fnv F sc__law_braid (by decide) ?hw fun cdv A outer s H E hr => ?hb
  case hb =>
    have nd := sc__law_braid.nd
    have u1 := Nat.lt_of_le_of_lt (Nat.add_le_add_left (show 1 ≤ 16 * 1 + 200 by decide) _) hr.un
    have u64 := Nat.lt_of_le_of_lt (Nat.add_le_add_left (show 64 ≤ 16 * 1 + 200 by decide) _) hr.un
    have u65 := Nat.lt_of_le_of_lt (Nat.add_le_add_left (show 65 ≤ 16 * 1 + 200 by decide) _) hr.un
    exact (pssv_cons (psv_set 3 nd (pev_op op_addV os_add pev_int (pev_callM 0 G__law_draw runF_ok (by decide) (hr.mono (by decide)) (by rfl) gm__law_draw kp__law_draw bi__law_draw (pav_cons (pev_op op_sub os_I (pev_var 1) pev_int) (pav_nil (x := false))))))
    (pssv_cons (psv_set 4 nd (pev_lst (pav_nil (x := true))))
    (pssv_cons (psv_for PassesOwn.never rfl (piv_range1 (by rfl) z_range (pav_cons (pev_callM 0 G__law_draw runF_ok (by decide) (hr.mono (by decide)) (by rfl) gm__law_draw kp__law_draw bi__law_draw (pav_cons (pev_op op_addV os_add (pev_var 2) pev_int) (pav_nil (x := false)))) (pav_nil (x := false)))) (pgv_name 5 nd) (pssv_cons (psv_set 6 nd (pev_op op_addV os_add pev_int (pev_callM 0 G__law_draw runF_ok (by decide) (hr.mono (by decide)) (by rfl) gm__law_draw kp__law_draw bi__law_draw (pav_cons (pev_op op_sub os_I (pev_var 3) pev_int) (pav_nil (x := false))))))
    (pssv_one (psv_expr (pev_bm 4 PySem.F.plainAttrs_list PySem.F.slot_list_append PySem.F.type_list_append mt_append mu_append (pav_consX (pev_chk (pev_ixA u1 (pev_lst (pav_consX (pev_ali 6) (pav_consX (pev_op op_sub os_I pev_int (pev_var 6)) (pav_nil (x := true))))) (pev_callM 0 G__law_draw runF_ok (by decide) (hr.mono (by decide)) (by rfl) gm__law_draw kp__law_draw bi__law_draw (pav_cons pev_int (pav_nil (x := false)))))) (pav_nil (x := true))))))))
    (pssv_one (psv_ret (pev_tup (pav_consX (pev_ali 3) (pav_consX (pev_callTy call_tuple_of cs_tuple (by rfl) z_tuple (by rfl) (pav_cons (pev_var 4) (pav_nil (x := false)))) (pav_nil (x := true))))))))))
  case hw => decide
theorem ok__law_order_of {a : Addr} {fd : FuncData} (F : Fun K "_law_order_of" "_law_order_of" sf__law_order_of a fd) (z_abs : mg "abs" = none) (z_range : mg "range" = none) (z_tuple : mg "tuple" = none) : FnV P w K mg base 1 a fd ["braid"] 0 F__law_order_of := by
  refine' fnv F sc__law_order_of (by decide) ?hw fun cdv A outer s H E hr => ?hb
  case hb =>
    have nd := sc__law_order_of.nd
    have u1 := Nat.lt_of_le_of_lt (Nat.add_le_add_left (show 1 ≤ 16 * 0 + 200 by decide) _) hr.un
    have u64 := Nat.lt_of_le_of_lt (Nat.add_le_add_left (show 64 ≤ 16 * 0 + 200 by decide) _) hr.un
    have u65 := Nat.lt_of_le_of_lt (Nat.add_le_add_left (show 65 ≤ 16 * 0 + 200 by decide) _) hr.un
    exact (pssv_cons (psv_setLc (own := [("k", 2)]) 1 rfl nd (sw_true rfl rfl rfl (by decide +kernel)) (piv_range1 (by rfl) z_range (pav_cons (pev_ixA u1 (pev_var 0) pev_int) (pav_nil (x := false)))) (blkOk_by (own := [("k", 2)]) (N := N__law_order_of) (sc := defScope sf__law_order_of) (by decide +kernel)) (fun _ _ _ _ _ => (pgv_name 2 nd)) (fun _ _ _ _ _ => ptsv_nil) (fun _ _ _ _ _ => (pev_op op_addV os_add (pev_var 2) pev_int)))
    (pssv_cons (psv_for PassesOwn.never rfl (piv_seq (pev_ixA u1 (pev_var 0) pev_int)) (pgv_name 3 nd) (pssv_cons (psv_set 4 nd (pev_callB call_abs cs_abs (by rfl) z_abs (by rfl) (pav_cons (pev_var 3) (pav_nil (x := false)))))
    (pssv_one (psv_asg (pev_tup (pav_consX (pev_chk (pev_ixA u1 (pev_var 1) (pev_var 4))) (pav_consX (pev_chk (pev_ixA u1 (pev_var 1) (pev_op op_sub os_I (pev_var 4) pev_int))) (pav_nil (x := true))))) (pgv_tup rfl (pgsv_cons (pgv_sub 1 u1 (pev_op op_sub os_I (pev_var 4) pev_int)) (pgsv_cons (pgv_sub 1 u1 (pev_var 4)) pgsv_nil)))))))
    (pssv_cons (psv_setLc (own := [("k", 2)]) 5 rfl nd (sw_true rfl rfl rfl (by decide +kernel)) (piv_range1 (by rfl) z_range (pav_cons (pev_ixA u1 (pev_var 0) pev_int) (pav_nil (x := false)))) (blkOk_by (own := [("k", 2)]) (N := N__law_order_of) (sc := defScope sf__law_order_of) (by decide +kernel)) (fun _ _ _ _ _ => (pgv_name 2 nd)) (fun _ _ _ _ _ => ptsv_nil) (fun _ _ _ _ _ => pev_int))
    (pssv_cons (psv_for PassesOwn.never rfl (piv_range1 (by rfl) z_range (pav_cons (pev_ixA u1 (pev_var 0) pev_int) (pav_nil (x := false)))) (pgv_name 6 nd) (pssv_one (psv_asg (pev_op op_addV os_add (pev_var 6) pev_int) (pgv_sub 5 u1 (pev_op op_sub os_I (pev_ixA u1 (pev_var 1) (pev_var 6)) pev_int)))))
    (pssv_one (psv_ret (pev_callTy call_tuple_of cs_tuple (by rfl) z_tuple (by rfl) (pav_cons (pev_var 5) (pav_nil (x := false))))))))))
  case hw => decide
theorem ok__law_sign {a : Addr} {fd : FuncData} (F : Fun K "_law_sign" "_law_sign" sf__law_sign a fd) (z_int : mg "int" = none) : FnV P w K mg base 1 a fd ["letter"] 0 F__law_sign := by
  refine' fnv F sc__law_sign (by decide) ?hw fun cdv A outer s H E hr => ?hb
  case hb =>
    have nd := sc__law_sign.nd
    have u1 := Nat.lt_of_le_of_lt (Nat.add_le_add_left (show 1 ≤ 16 * 0 + 200 by decide) _) hr.un
    have u64 := Nat.lt_of_le_of_lt (Nat.add_le_add_left (show 64 ≤ 16 * 0 + 200 by decide) _) hr.un
    have u65 := Nat.lt_of_le_of_lt (Nat.add_le_add_left (show 65 ≤ 16 * 0 + 200 by decide) _) hr.un
    exact (pssv_one (psv_ret (pev_op op_sub os_I pev_int (pev_op op_mulA os_mul pev_int (pev_callTy call_int1 cs_int (by rfl) z_int (by rfl) (pav_cons (pev_cmp op_lt os_B (pev_var 0) pev_int (nomark _)) (pav_nil (x := false))))))))
  case hw => decide
theorem ok__law_table {a : Addr} {fd : FuncData} (F : Fun K "_law_table" "_law_table" sf__law_table a fd) (z_abs : mg "abs" = none) (z_max : mg "max" = none) (z_min : mg "min" = none) (z_range : mg "range" = none) {a__law_sign : Addr} {fd__law_sign : FuncData} (G__law_sign : FnV P w K mg base 1 a__law_sign fd__law_sign ["letter"] 0 F__law_sign) (bi__law_sign : Binds K fd__law_sign ["letter"] []) (gm__law_sign : mg "_law_sign" = some (.ref a__law_sign)) (kp__law_sign : PySem.W.keepIn K (.ref a__law_sign) = true) : FnV P w K mg base 2 a fd ["braid"] 0 F__law_table := by
  refine' fnv F sc__law_table (by decide) ?hw fun cdv A outer s H E hr => ?hb
  case hb =>
    have nd := sc__law_table.nd
    have u1 := Nat.lt_of_le_of_lt (Nat.add_le_add_left (show 1 ≤ 16 * 1 + 200 by decide) _) hr.un
    have u64 := Nat.lt_of_le_of_lt (Nat.add_le_add_left (show 64 ≤ 16 * 1 + 200 by decide) _) hr.un
    have u65 := Nat.lt_of_le_of_lt (Nat.add_le_add_left (show 65 ≤ 16 * 1 + 200 by decide) _) hr.un
    exact (pssv_cons (psv_setLc (own := [("k", 2)]) 1 rfl nd (sw_true rfl rfl rfl (by decide +kernel)) (piv_range1 (by rfl) z_range (pav_cons (pev_ixA u1 (pev_var 0) pev_int) (pav_nil (x := false)))) (blkOk_by (own := [("k", 2)]) (N := N__law_table) (sc := defScope sf__law_table) (by decide +kernel)) (fun _ _ _ _ _ => (pgv_name 2 nd)) (fun _ _ _ _ _ => ptsv_nil) (fun _ _ _ _ _ => (pev_op op_addV os_add (pev_var 2) pev_int)))
    (pssv_cons (psv_set 3 nd pev_dnewT)
    (pssv_cons (psv_for PassesOwn.never rfl (piv_seq (pev_ixA u1 (pev_var 0) pev_int)) (pgv_name 4 nd) (pssv_cons (psv_set 5 nd (pev_callB call_abs cs_abs (by rfl) z_abs (by rfl) (pav_cons (pev_var 4) (pav_nil (x := false)))))
    (pssv_cons (psv_set 6 nd (pev_tup (pav_consX (pev_callB (call_minA rfl) cs_minA (by rfl) z_min (by rfl) (pav_cons (pev_ixA u1 (pev_var 1) (pev_op op_sub os_I (pev_var 5) pev_int)) (pav_cons (pev_ixA u1 (pev_var 1) (pev_var 5)) (pav_nil (x := false))))) (pav_consX (pev_callB (call_maxA rfl) cs_maxA (by rfl) z_max (by rfl) (pav_cons (pev_ixA u1 (pev_var 1) (pev_op op_sub os_I (pev_var 5) pev_int)) (pav_cons (pev_ixA u1 (pev_var 1) (pev_var 5)) (pav_nil (x := false))))) (pav_nil (x := true))))))
    (pssv_cons (psv_asg (pev_op op_addV os_add (pev_get2 u1 (pev_var 3) (pev_var 6) pev_int) (pev_call G__law_sign runF_ok (hr.mono (by decide)) (by rfl) gm__law_sign kp__law_sign bi__law_sign (pav_cons (pev_var 4) (pav_nil (x := false))))) (pgv_sub 3 u1 (pev_var 6)))
    (pssv_one (psv_asg (pev_tup (pav_consX (pev_chk (pev_ixA u1 (pev_var 1) (pev_var 5))) (pav_consX (pev_chk (pev_ixA u1 (pev_var 1) (pev_op op_sub os_I (pev_var 5) pev_int))) (pav_nil (x := true))))) (pgv_tup rfl (pgsv_cons (pgv_sub 1 u1 (pev_op op_sub os_I (pev_var 5) pev_int)) (pgsv_cons (pgv_sub 1 u1 (pev_var 5)) pgsv_nil)))))))))
    (pssv_one (psv_ret (pev_mov 3))))))
  case hw => decide
theorem ok__law_parts {a : Addr} {fd : FuncData} (F : Fun K "_law_parts" "_law_parts" sf__law_parts a fd) (z_len : mg "len" = none) (z_min : mg "min" = none) (z_range : mg "range" = none) : FnV P w K mg base 1 a fd ["order"] 0 F__law_parts := by
  refine' fnv F sc__law_parts (by decide) ?hw fun cdv A outer s H E hr => ?hb
  case hb =>
    have nd := sc__law_parts.nd
    have u1 := Nat.lt_of_le_of_lt (Nat.add_le_add_left (show 1 ≤ 16 * 0 + 200 by decide) _) hr.un
    have u64 := Nat.lt_of_le_of_lt (Nat.add_le_add_left (show 64 ≤ 16 * 0 + 200 by decide) _) hr.un
    have u65 := Nat.lt_of_le_of_lt (Nat.add_le_add_left (show 65 ≤ 16 * 0 + 200 by decide) _) hr.un
    exact (pssv_cons (psv_set 1 nd (pev_lst (pav_nil (x := true))))
    (pssv_cons (psv_for PassesOwn.never rfl (piv_range2 (by rfl) z_range (pav_cons pev_int (pav_cons (pev_op op_addV os_add (pev_callB call_lenV cs_len (by rfl) z_len (by rfl) (pav_cons (pev_var 0) (pav_nil (x := false)))) pev_int) (pav_nil (x := false))))) (pgv_name 2 nd) (pssv_cons (psv_set 3 nd (pev_lst (pav_consX (pev_ali 2) (pav_nil (x := true)))))
    (pssv_cons (psv_while PassesOwn.never (ptv_cmp (op_neD u64) os_ne (pev_ixA u1 (pev_var 0) (pev_op op_sub os_I (pev_ixA u1 (pev_var 3) (pev_op op_sub os_I (pev_callB call_lenV cs_len (by rfl) z_len (by rfl) (pav_cons (pev_var 3) (pav_nil (x := false)))) pev_int)) pev_int)) (pev_var 2) (nomark _)) (pssv_one (psv_expr (pev_bm 3 PySem.F.plainAttrs_list PySem.F.slot_list_append PySem.F.type_list_append mt_append mu_append (pav_consX (pev_chk (pev_ixA u1 (pev_var 0) (pev_op op_sub os_I (pev_ixA u1 (pev_var 3) (pev_op op_sub os_I (pev_callB call_lenV cs_len (by rfl) z_len (by rfl) (pav_cons (pev_var 3) (pav_nil (x := false)))) pev_int)) pev_int))) (pav_nil (x := true)))))))
    (pssv_one (psv_if (ptv_cmp (op_eqD u64) os_eq (pev_callB (call_minA rfl) cs_minA (by rfl) z_min (by rfl) (pav_cons (pev_var 3) (pav_nil (x := false)))) (pev_var 2) (nomark _)) (pssv_one (psv_expr (pev_bm 1 PySem.F.plainAttrs_list PySem.F.slot_list_append PySem.F.type_list_append mt_append mu_append (pav_consX (pev_ali 3) (pav_nil (x := true)))))) pssv_nil)))))
    (pssv_one (psv_ret (pev_mov 1)))))
  case hw => decide
theorem ok__law_linking {a : Addr} {fd : FuncData} (F : Fun K "_law_linking" "_law_linking" sf__law_linking a fd) (z_tuple : mg "tuple" = none) {a__law_parts : Addr} {fd__law_parts : FuncData} (G__law_parts : FnV P w K mg base 1 a__law_parts fd__law_parts ["order"] 0 F__law_parts) (bi__law_parts : Binds K fd__law_parts ["order"] []) (gm__law_parts : mg "_law_parts" = some (.ref a__law_parts)) (kp__law_parts : PySem.W.keepIn K (.ref a__law_parts) = true) {a__law_order_of : Addr} {fd__law_order_of : FuncData} (G__law_order_of : FnV P w K mg base 1 a__law_order_of fd__law_order_of ["braid"] 0 F__law_order_of) (bi__law_order_of : Binds K fd__law_order_of ["braid"] []) (gm__law_order_of : mg "_law_order_of" = some (.ref a__law_order_of)) (kp__law_order_of : PySem.W.keepIn K (.ref a__law_order_of) = true) {a__law_table : Addr} {fd__law_table : FuncData} (G__law_table : FnV P w K mg base 2 a__law_table fd__law_table ["braid"] 0 F__law_table) (bi__law_table : Binds K fd__law_table ["braid"] []) (gm__law_table : mg "_law_table" = some (.ref a__law_table)) (kp__law_table : PySem.W.keepIn K (.ref a__law_table) = true) : FnV P w K mg base 3 a fd ["braid"] 0 F__law_linking := by
  refine' fnv F sc__law_linking (by decide) ?hw fun cdv A outer s H E hr => ?hb
  case hb =>
    have nd := sc__law_linking.nd
    have u1 := Nat.lt_of_le_of_lt (Nat.add_le_add_left (show 1 ≤ 16 * 2 + 200 by decide) _) hr.un
    have u64 := Nat.lt_of_le_of_lt (Nat.add_le_add_left (show 64 ≤ 16 * 2 + 200 by decide) _) hr.un
    have u65 := Nat.lt_of_le_of_lt (Nat.add_le_add_left (show 65 ≤ 16 * 2 + 200 by decide) _) hr.un
    exact (pssv_cons (psv_set 1 nd (pev_call G__law_parts runF_ok (hr.mono (by decide)) (by rfl) gm__law_parts kp__law_parts bi__law_parts (pav_cons (pev_call G__law_order_of runF_ok (hr.mono (by decide)) (by rfl) gm__law_order_of kp__law_order_of bi__law_order_of (pav_cons (pev_var 0) (pav_nil (x := false)))) (pav_nil (x := false)))))
    (pssv_cons (psv_set 2 nd (pev_call G__law_table runF_ok (hr.mono (by decide)) (by rfl) gm__law_table kp__law_table bi__law_table (pav_cons (pev_var 0) (pav_nil (x := false)))))
    (pssv_cons (psv_set 3 nd (pev_lst (pav_nil (x := true))))
    (pssv_cons (psv_for PassesOwn.never rfl (piv_seq (pev_var 1)) (pgv_name 4 nd) (pssv_cons (psv_set 5 nd (pev_lst (pav_nil (x := true))))
    (pssv_cons (psv_for PassesOwn.never rfl (piv_seq (pev_var 1)) (pgv_name 6 nd) (pssv_cons (psv_set 7 nd pev_int)
    (pssv_cons (psv_forD 2 PassesOwn.never rfl (piv_key 2) (pgv_tup rfl (pgsv_cons (pgv_name 8 nd) (pgsv_cons (pgv_name 9 nd) pgsv_nil))) (pssv_one (psv_if (ptv_w (pwv_and (ptv_cmp (op_neD u64) os_ne (pev_var 4) (pev_var 6) (nomark _)) (pwv_and1 (ptv_w (pwv_or (ptv_w (pwv_and (ptv_cmp (op_inA u65) os_in (pev_var 8) (pev_var 4) (by rfl)) (pwv_and1 (ptv_cmp (op_inA u65) os_in (pev_var 9) (pev_var 6) (by rfl))))) (pwv_or1 (ptv_w (pwv_and (ptv_cmp (op_inA u65) os_in (pev_var 8) (pev_var 6) (by rfl)) (pwv_and1 (ptv_cmp (op_inA u65) os_in (pev_var 9) (pev_var 4) (by rfl))))))))))) (pssv_one (psv_set 7 nd (pev_op op_addV os_add (pev_var 7) (pev_ixA u1 (pev_var 2) (pev_tup (pav_consX (pev_ali 8) (pav_consX (pev_ali 9) (pav_nil (x := true))))))))) pssv_nil)))
    (pssv_one (psv_expr (pev_bm 5 PySem.F.plainAttrs_list PySem.F.slot_list_append PySem.F.type_list_append mt_append mu_append (pav_consX (pev_ali 7) (pav_nil (x := true)))))))))
    (pssv_one (psv_expr (pev_bm 3 PySem.F.plainAttrs_list PySem.F.slot_list_append PySem.F.type_list_append mt_append mu_append (pav_consX (pev_callTy call_tuple_of cs_tuple (by rfl) z_tuple (by rfl) (pav_cons (pev_var 5) (pav_nil (x := false)))) (pav_nil (x := true)))))))))
    (pssv_one (psv_ret (pev_callTy call_tuple_of cs_tuple (by rfl) z_tuple (by rfl) (pav_cons (pev_var 3) (pav_nil (x := false))))))))))
  case hw => decide
theorem ok__law_reduced {a : Addr} {fd : FuncData} (F : Fun K "_law_reduced" "_law_reduced" sf__law_reduced a fd) (z_len : mg "len" = none) (z_list : mg "list" = none) (z_range : mg "range" = none) (z_tuple : mg "tuple" = none) : FnV P w K mg base 1 a fd ["letters"] 0 F__law_reduced := by
  refine' fnv F sc__law_reduced (by decide) ?hw fun cdv A outer s H E hr => ?hb
  case hb =>
    have nd := sc__law_reduced.nd
    have u1 := Nat.lt_of_le_of_lt (Nat.add_le_add_left (show 1 ≤ 16 * 0 + 200 by decide) _) hr.un
    have u64 := Nat.lt_of_le_of_lt (Nat.add_le_add_left (show 64 ≤ 16 * 0 + 200 by decide) _) hr.un
    have u65 := Nat.lt_of_le_of_lt (Nat.add_le_add_left (show 65 ≤ 16 * 0 + 200 by decide) _) hr.un
    exact (pssv_cons (psv_set 1 nd (pev_callTy (call_listA rfl) cs_listA (by rfl) z_list (by rfl) (pav_cons (pev_var 0) (pav_nil (x := false)))))
    (pssv_cons (psv_for PassesOwn.never rfl (piv_range1 (by rfl) z_range (pav_cons (pev_callB call_lenV cs_len (by rfl) z_len (by rfl) (pav_cons (pev_var 0) (pav_nil (x := false)))) (pav_nil (x := false)))) (pgv_name 2 nd) (pssv_one (psv_for PassesOwn.never rfl (piv_range1 (by rfl) z_range (pav_cons (pev_op op_sub os_I (pev_callB call_lenV cs_len (by rfl) z_len (by rfl) (pav_cons (pev_var 1) (pav_nil (x := false)))) pev_int) (pav_nil (x := false)))) (pgv_name 3 nd) (pssv_one (psv_if (ptv_cmp (op_eqD u64) os_eq (pev_ixA u1 (pev_var 1) (pev_var 3)) (pev_op op_sub os_I pev_int (pev_ixA u1 (pev_var 1) (pev_op op_addV os_add (pev_var 3) pev_int))) (nomark _)) (pssv_cons (psv_set 1 nd (pev_op op_addV os_add (pev_slice (pev_var 1) pov_none (pov_some (pev_var 3))) (pev_slice (pev_var 1) (pov_some (pev_op op_addV os_add (pev_var 3) pev_int)) pov_none)))
    (pssv_one psv_break)) pssv_nil)))))
    (pssv_one (psv_ret (pev_callTy call_tuple_of cs_tuple (by rfl) z_tuple (by rfl) (pav_cons (pev_var 1) (pav_nil (x := false))))))))
  case hw => decide
theorem ok__law_fault_holds {a : Addr} {fd : FuncData} (F : Fun K "_law_fault_holds" "_law_fault_holds" sf__law_fault_holds a fd) (z_len : mg "len" = none) (z_list : mg "list" = none) {a__law_draw : Addr} {fd__law_draw : FuncData} (G__law_draw : FnV P w K mg base 1 a__law_draw fd__law_draw ["state", "limit"] 1 F__law_draw) (bi__law_draw : Binds K fd__law_draw ["state", "limit"] []) (gm__law_draw : mg "_law_draw" = some (.ref a__law_draw)) (kp__law_draw : PySem.W.keepIn K (.ref a__law_draw) = true) {a_braid_fault : Addr} {fd_braid_fault : FuncData} (G_braid_fault : FnV P w K mg base 3 a_braid_fault fd_braid_fault ["value"] 0 F_braid_fault) (bi_braid_fault : Binds K fd_braid_fault ["value"] []) (gm_braid_fault : mg "braid_fault" = some (.ref a_braid_fault)) (kp_braid_fault : PySem.W.keepIn K (.ref a_braid_fault) = true) : FnV P w K mg base 4 a fd ["state", "braid"] 1 F__law_fault_holds := by
  refine' fnv F sc__law_fault_holds (by decide) ?hw fun cdv A outer s H E hr => ?hb
  case hb =>
    have nd := sc__law_fault_holds.nd
    have u1 := Nat.lt_of_le_of_lt (Nat.add_le_add_left (show 1 ≤ 16 * 3 + 200 by decide) _) hr.un
    have u64 := Nat.lt_of_le_of_lt (Nat.add_le_add_left (show 64 ≤ 16 * 3 + 200 by decide) _) hr.un
    have u65 := Nat.lt_of_le_of_lt (Nat.add_le_add_left (show 65 ≤ 16 * 3 + 200 by decide) _) hr.un
    exact (pssv_cons (psv_asg (pev_var 1) (pgv_tup rfl (pgsv_cons (pgv_name 2 nd) (pgsv_cons (pgv_name 3 nd) pgsv_nil))))
    (pssv_cons (psv_set 4 nd (pev_lst (pav_consX (pev_tup (pav_consX pev_non (pav_consX pev_str (pav_nil (x := true))))) (pav_consX (pev_tup (pav_consX (pev_tup (pav_consX (pev_ali 2) (pav_nil (x := true)))) (pav_consX pev_str (pav_nil (x := true))))) (pav_consX (pev_frz (pev_tup (pav_consX (pev_frz (pev_tup (pav_consX (pev_ali 2) (pav_consX (pev_frz (pev_callTy (call_listA rfl) cs_listA (by rfl) z_list (by rfl) (pav_cons (pev_var 3) (pav_nil (x := false))))) (pav_nil (x := true)))))) (pav_consX pev_str (pav_nil (x := true)))))) (pav_consX (pev_tup (pav_consX (pev_op op_addV os_add (pev_var 1) (pev_tup (pav_consX pev_int (pav_nil (x := true))))) (pav_consX pev_str (pav_nil (x := true))))) (pav_consX (pev_tup (pav_consX pev_str (pav_consX pev_str (pav_nil (x := true))))) (pav_nil (x := true)))))))))
    (pssv_cons (psv_set 4 nd (pev_op op_addV os_add (pev_var 4) (pev_lst (pav_consX (pev_tup (pav_consX (pev_tup (pav_consX pev_int (pav_consX (pev_tup (pav_nil (x := true))) (pav_nil (x := true))))) (pav_consX pev_str (pav_nil (x := true))))) (pav_consX (pev_tup (pav_consX (pev_tup (pav_consX pev_int (pav_consX (pev_tup (pav_consX pev_int (pav_nil (x := true)))) (pav_nil (x := true))))) (pav_consX pev_str (pav_nil (x := true))))) (pav_consX (pev_tup (pav_consX (pev_tup (pav_consX pev_bl (pav_consX (pev_tup (pav_nil (x := true))) (pav_nil (x := true))))) (pav_consX pev_str (pav_nil (x := true))))) (pav_consX (pev_tup (pav_consX (pev_tup (pav_consX pev_str (pav_consX (pev_tup (pav_consX pev_int (pav_nil (x := true)))) (pav_nil (x := true))))) (pav_consX pev_str (pav_nil (x := true))))) (pav_nil (x := true)))))))))
    (pssv_cons (psv_set 4 nd (pev_op op_addV os_add (pev_var 4) (pev_lst (pav_consX (pev_tup (pav_consX (pev_tup (pav_consX (pev_ali 2) (pav_consX (pev_op op_addV os_add (pev_var 3) (pev_tup (pav_consX (pev_ali 2) (pav_nil (x := true))))) (pav_nil (x := true))))) (pav_consX pev_str (pav_nil (x := true))))) (pav_consX (pev_tup (pav_consX (pev_tup (pav_consX (pev_ali 2) (pav_consX (pev_op op_addV os_add (pev_tup (pav_consX pev_int (pav_nil (x := true)))) (pev_var 3)) (pav_nil (x := true))))) (pav_consX pev_str (pav_nil (x := true))))) (pav_nil (x := true)))))))
    (pssv_cons (psv_set 4 nd (pev_op op_addV os_add (pev_var 4) (pev_lst (pav_consX (pev_tup (pav_consX (pev_tup (pav_consX (pev_ali 2) (pav_consX (pev_op op_addV os_add (pev_var 3) (pev_tup (pav_consX pev_bl (pav_nil (x := true))))) (pav_nil (x := true))))) (pav_consX pev_str (pav_nil (x := true))))) (pav_consX (pev_tup (pav_consX (pev_tup (pav_consX (pev_ali 2) (pav_consX (pev_tup (pav_consX (pev_op op_sub os_I pev_int (pev_var 2)) (pav_nil (x := true)))) (pav_nil (x := true))))) (pav_consX pev_str (pav_nil (x := true))))) (pav_consX (pev_tup (pav_consX (pev_tup (pav_consX (pev_ali 2) (pav_consX (pev_tup (pav_consX pev_str (pav_nil (x := true)))) (pav_nil (x := true))))) (pav_consX pev_str (pav_nil (x := true))))) (pav_nil (x := true))))))))
    (pssv_cons (psv_set 4 nd (pev_op op_addV os_add (pev_var 4) (pev_lst (pav_consX (pev_tup (pav_consX (pev_tup (pav_consX pev_int (pav_consX (pev_tup (pav_consX pev_int (pav_nil (x := true)))) (pav_nil (x := true))))) (pav_consX pev_str (pav_nil (x := true))))) (pav_consX (pev_tup (pav_consX (pev_tup (pav_consX pev_int (pav_consX (pev_tup (pav_consX pev_int (pav_nil (x := true)))) (pav_nil (x := true))))) (pav_consX pev_str (pav_nil (x := true))))) (pav_consX (pev_tup (pav_consX (pev_tup (pav_consX (pev_ali 2) (pav_consX (pev_tup (pav_consX pev_non (pav_nil (x := true)))) (pav_nil (x := true))))) (pav_consX pev_str (pav_nil (x := true))))) (pav_consX (pev_tup (pav_consX pev_int (pav_consX pev_str (pav_nil (x := true))))) (pav_nil (x := true)))))))))
    (pssv_cons (psv_asg (pev_ixA u1 (pev_var 4) (pev_callM 0 G__law_draw runF_ok (by decide) (hr.mono (by decide)) (by rfl) gm__law_draw kp__law_draw bi__law_draw (pav_cons (pev_callB call_lenV cs_len (by rfl) z_len (by rfl) (pav_cons (pev_var 4) (pav_nil (x := false)))) (pav_nil (x := false))))) (pgv_tup rfl (pgsv_cons (pgv_name 5 nd) (pgsv_cons (pgv_name 6 nd) pgsv_nil))))
    (pssv_one (psv_ret (pev_and (pev_cmp (op_eqD u64) os_eq (pev_call G_braid_fault runF_ok (hr.mono (by decide)) (by rfl) gm_braid_fault kp_braid_fault bi_braid_fault (pav_cons (pev_var 5) (pav_nil (x := false)))) (pev_var 6) (nomark _)) (pev_and (pev_cmp op_isN os_isN (pev_call G_braid_fault runF_ok (hr.mono (by decide)) (by rfl) gm_braid_fault kp_braid_fault bi_braid_fault (pav_cons (pev_var 1) (pav_nil (x := false)))) pev_non (nomark _)) (pev_one (pev_cmp op_isN os_isN (pev_call G_braid_fault runF_ok (hr.mono (by decide)) (by rfl) gm_braid_fault kp_braid_fault bi_braid_fault (pav_cons (pev_tup (pav_consX pev_int (pav_consX (pev_tup (pav_nil (x := true))) (pav_nil (x := true))))) (pav_nil (x := false)))) pev_non (nomark _))))))))))))))
  case hw => decide
theorem ok_law {a : Addr} {fd : FuncData} (F : Fun K "law" "law" sf_law a fd) (z_abs : mg "abs" = none) (z_len : mg "len" = none) (z_range : mg "range" = none) (z_sum : mg "sum" = none) (z_tuple : mg "tuple" = none) {a__law_state : Addr} {fd__law_state : FuncData} (G__law_state : FnV P w K mg base 1 a__law_state fd__law_state ["script"] 0 F__law_state) (bi__law_state : Binds K fd__law_state ["script"] []) (gm__law_state : mg "_law_state" = some (.ref a__law_state)) (kp__law_state : PySem.W.keepIn K (.ref a__law_state) = true) {a__law_braid : Addr} {fd__law_braid : FuncData} (G__law_braid : FnV P w K mg base 2 a__law_braid fd__law_braid ["state", "most", "length"] 1 F__law_braid) (bi__law_braid : Binds K fd__law_braid ["state", "most", "length"] []) (gm__law_braid : mg "_law_braid" = some (.ref a__law_braid)) (kp__law_braid : PySem.W.keepIn K (.ref a__law_braid) = true) {a_joined : Addr} {fd_joined : FuncData} (G_joined : FnV P w K mg base 1 a_joined fd_joined ["one", "other"] 0 F_joined) (bi_joined : Binds K fd_joined ["one", "other"] []) (gm_joined : mg "joined" = some (.ref a_joined)) (kp_joined : PySem.W.keepIn K (.ref a_joined) = true) {a_undone : Addr} {fd_undone : FuncData} (G_undone : FnV P w K mg base 1 a_undone fd_undone ["braid"] 0 F_undone) (bi_undone : Binds K fd_undone ["braid"] []) (gm_undone : mg "undone" = some (.ref a_undone)) (kp_undone : PySem.W.keepIn K (.ref a_undone) = true) {a_mirrored : Addr} {fd_mirrored : FuncData} (G_mirrored : FnV P w K mg base 1 a_mirrored fd_mirrored ["braid"] 0 F_mirrored) (bi_mirrored : Binds K fd_mirrored ["braid"] []) (gm_mirrored : mg "mirrored" = some (.ref a_mirrored)) (kp_mirrored : PySem.W.keepIn K (.ref a_mirrored) = true) {a_from_below : Addr} {fd_from_below : FuncData} (G_from_below : FnV P w K mg base 1 a_from_below fd_from_below ["braid"] 0 F_from_below) (bi_from_below : Binds K fd_from_below ["braid"] []) (gm_from_below : mg "from_below" = some (.ref a_from_below)) (kp_from_below : PySem.W.keepIn K (.ref a_from_below) = true) {a_turned : Addr} {fd_turned : FuncData} (G_turned : FnV P w K mg base 2 a_turned fd_turned ["braid"] 0 F_turned) (bi_turned : Binds K fd_turned ["braid"] []) (gm_turned : mg "turned" = some (.ref a_turned)) (kp_turned : PySem.W.keepIn K (.ref a_turned) = true) {a__law_sign : Addr} {fd__law_sign : FuncData} (G__law_sign : FnV P w K mg base 1 a__law_sign fd__law_sign ["letter"] 0 F__law_sign) (bi__law_sign : Binds K fd__law_sign ["letter"] []) (gm__law_sign : mg "_law_sign" = some (.ref a__law_sign)) (kp__law_sign : PySem.W.keepIn K (.ref a__law_sign) = true) {a_trivial : Addr} {fd_trivial : FuncData} (G_trivial : FnV P w K mg base 1 a_trivial fd_trivial ["strands"] 0 F_trivial) (bi_trivial : Binds K fd_trivial ["strands"] []) (gm_trivial : mg "trivial" = some (.ref a_trivial)) (kp_trivial : PySem.W.keepIn K (.ref a_trivial) = true) {a__law_draw : Addr} {fd__law_draw : FuncData} (G__law_draw : FnV P w K mg base 1 a__law_draw fd__law_draw ["state", "limit"] 1 F__law_draw) (bi__law_draw : Binds K fd__law_draw ["state", "limit"] []) (gm__law_draw : mg "_law_draw" = some (.ref a__law_draw)) (kp__law_draw : PySem.W.keepIn K (.ref a__law_draw) = true) {a_repeated : Addr} {fd_repeated : FuncData} (G_repeated : FnV P w K mg base 3 a_repeated fd_repeated ["braid", "count"] 0 F_repeated) (bi_repeated : Binds K fd_repeated ["braid", "count"] []) (gm_repeated : mg "repeated" = some (.ref a_repeated)) (kp_repeated : PySem.W.keepIn K (.ref a_repeated) = true) {a_freely_reduced : Addr} {fd_freely_reduced : FuncData} (G_freely_reduced : FnV P w K mg base 1 a_freely_reduced fd_freely_reduced ["braid"] 0 F_freely_reduced) (bi_freely_reduced : Binds K fd_freely_reduced ["braid"] []) (gm_freely_reduced : mg "freely_reduced" = some (.ref a_freely_reduced)) (kp_freely_reduced : PySem.W.keepIn K (.ref a_freely_reduced) = true) {a__law_reduced : Addr} {fd__law_reduced : FuncData} (G__law_reduced : FnV P w K mg base 1 a__law_reduced fd__law_reduced ["letters"] 0 F__law_reduced) (bi__law_reduced : Binds K fd__law_reduced ["letters"] []) (gm__law_reduced : mg "_law_reduced" = some (.ref a__law_reduced)) (kp__law_reduced : PySem.W.keepIn K (.ref a__law_reduced) = true) {a__law_order_of : Addr} {fd__law_order_of : FuncData} (G__law_order_of : FnV P w K mg base 1 a__law_order_of fd__law_order_of ["braid"] 0 F__law_order_of) (bi__law_order_of : Binds K fd__law_order_of ["braid"] []) (gm__law_order_of : mg "_law_order_of" = some (.ref a__law_order_of)) (kp__law_order_of : PySem.W.keepIn K (.ref a__law_order_of) = true) {a__law_parts : Addr} {fd__law_parts : FuncData} (G__law_parts : FnV P w K mg base 1 a__law_parts fd__law_parts ["order"] 0 F__law_parts) (bi__law_parts : Binds K fd__law_parts ["order"] []) (gm__law_parts : mg "_law_parts" = some (.ref a__law_parts)) (kp__law_parts : PySem.W.keepIn K (.ref a__law_parts) = true) {a_exponent_sum : Addr} {fd_exponent_sum : FuncData} (G_exponent_sum : FnV P w K mg base 2 a_exponent_sum fd_exponent_sum ["braid"] 0 F_exponent_sum) (bi_exponent_sum : Binds K fd_exponent_sum ["braid"] []) (gm_exponent_sum : mg "exponent_sum" = some (.ref a_exponent_sum)) (kp_exponent_sum : PySem.W.keepIn K (.ref a_exponent_sum) = true) {a_order_of : Addr} {fd_order_of : FuncData} (G_order_of : FnV P w K mg base 2 a_order_of fd_order_of ["braid"] 0 F_order_of) (bi_order_of : Binds K fd_order_of ["braid"] []) (gm_order_of : mg "order_of" = some (.ref a_order_of)) (kp_order_of : PySem.W.keepIn K (.ref a_order_of) = true) {a_component_count : Addr} {fd_component_count : FuncData} (G_component_count : FnV P w K mg base 3 a_component_count fd_component_count ["braid"] 0 F_component_count) (bi_component_count : Binds K fd_component_count ["braid"] []) (gm_component_count : mg "component_count" = some (.ref a_component_count)) (kp_component_count : PySem.W.keepIn K (.ref a_component_count) = true) {a_crossing_table : Addr} {fd_crossing_table : FuncData} (G_crossing_table : FnV P w K mg base 2 a_crossing_table fd_crossing_table ["braid"] 0 F_crossing_table) (bi_crossing_table : Binds K fd_crossing_table ["braid"] []) (gm_crossing_table : mg "crossing_table" = some (.ref a_crossing_table)) (kp_crossing_table : PySem.W.keepIn K (.ref a_crossing_table) = true) {a__law_table : Addr} {fd__law_table : FuncData} (G__law_table : FnV P w K mg base 2 a__law_table fd__law_table ["braid"] 0 F__law_table) (bi__law_table : Binds K fd__law_table ["braid"] []) (gm__law_table : mg "_law_table" = some (.ref a__law_table)) (kp__law_table : PySem.W.keepIn K (.ref a__law_table) = true) {a_braid_linking_rows : Addr} {fd_braid_linking_rows : FuncData} (G_braid_linking_rows : FnV P w K mg base 3 a_braid_linking_rows fd_braid_linking_rows ["braid"] 0 F_braid_linking_rows) (bi_braid_linking_rows : Binds K fd_braid_linking_rows ["braid"] []) (gm_braid_linking_rows : mg "braid_linking_rows" = some (.ref a_braid_linking_rows)) (kp_braid_linking_rows : PySem.W.keepIn K (.ref a_braid_linking_rows) = true) {a__law_linking : Addr} {fd__law_linking : FuncData} (G__law_linking : FnV P w K mg base 3 a__law_linking fd__law_linking ["braid"] 0 F__law_linking) (bi__law_linking : Binds K fd__law_linking ["braid"] []) (gm__law_linking : mg "_law_linking" = some (.ref a__law_linking)) (kp__law_linking : PySem.W.keepIn K (.ref a__law_linking) = true) {a__law_truth : Addr} {fd__law_truth : FuncData} (G__law_truth : FnV P w K mg base 1 a__law_truth fd__law_truth ["told", "due"] 0 F__law_truth) (bi__law_truth : Binds K fd__law_truth ["told", "due"] []) (gm__law_truth : mg "_law_truth" = some (.ref a__law_truth)) (kp__law_truth : PySem.W.keepIn K (.ref a__law_truth) = true) {a_is_pure : Addr} {fd_is_pure : FuncData} (G_is_pure : FnV P w K mg base 3 a_is_pure fd_is_pure ["braid"] 0 F_is_pure) (bi_is_pure : Binds K fd_is_pure ["braid"] []) (gm_is_pure : mg "is_pure" = some (.ref a_is_pure)) (kp_is_pure : PySem.W.keepIn K (.ref a_is_pure) = true) {a_widened : Addr} {fd_widened : FuncData} (G_widened : FnV P w K mg base 1 a_widened fd_widened ["braid", "strands"] 0 F_widened) (bi_widened : Binds K fd_widened ["braid", "strands"] []) (gm_widened : mg "widened" = some (.ref a_widened)) (kp_widened : PySem.W.keepIn K (.ref a_widened) = true) {a_shifted : Addr} {fd_shifted : FuncData} (G_shifted : FnV P w K mg base 1 a_shifted fd_shifted ["braid", "count"] 0 F_shifted) (bi_shifted : Binds K fd_shifted ["braid", "count"] []) (gm_shifted : mg "shifted" = some (.ref a_shifted)) (kp_shifted : PySem.W.keepIn K (.ref a_shifted) = true) {a_beside : Addr} {fd_beside : FuncData} (G_beside : FnV P w K mg base 2 a_beside fd_beside ["one", "other"] 0 F_beside) (bi_beside : Binds K fd_beside ["one", "other"] []) (gm_beside : mg "beside" = some (.ref a_beside)) (kp_beside : PySem.W.keepIn K (.ref a_beside) = true) {a_half_twist : Addr} {fd_half_twist : FuncData} (G_half_twist : FnV P w K mg base 1 a_half_twist fd_half_twist ["strands"] 0 F_half_twist) (bi_half_twist : Binds K fd_half_twist ["strands"] []) (gm_half_twist : mg "half_twist" = some (.ref a_half_twist)) (kp_half_twist : PySem.W.keepIn K (.ref a_half_twist) = true) {a_full_twist : Addr} {fd_full_twist : FuncData} (G_full_twist : FnV P w K mg base 1 a_full_twist fd_full_twist ["strands"] 0 F_full_twist) (bi_full_twist : Binds K fd_full_twist ["strands"] []) (gm_full_twist : mg "full_twist" = some (.ref a_full_twist)) (kp_full_twist : PySem.W.keepIn K (.ref a_full_twist) = true) {a_torus_braid : Addr} {fd_torus_braid : FuncData} (G_torus_braid : FnV P w K mg base 4 a_torus_braid fd_torus_braid ["strands", "turns"] 0 F_torus_braid) (bi_torus_braid : Binds K fd_torus_braid ["strands", "turns"] []) (gm_torus_braid : mg "torus_braid" = some (.ref a_torus_braid)) (kp_torus_braid : PySem.W.keepIn K (.ref a_torus_braid) = true) {a_doubled : Addr} {fd_doubled : FuncData} (G_doubled : FnV P w K mg base 2 a_doubled fd_doubled ["braid"] 0 F_doubled) (bi_doubled : Binds K fd_doubled ["braid"] []) (gm_doubled : mg "doubled" = some (.ref a_doubled)) (kp_doubled : PySem.W.keepIn K (.ref a_doubled) = true) {a__law_fault_holds : Addr} {fd__law_fault_holds : FuncData} (G__law_fault_holds : FnV P w K mg base 4 a__law_fault_holds fd__law_fault_holds ["state", "braid"] 1 F__law_fault_holds) (bi__law_fault_holds : Binds K fd__law_fault_holds ["state", "braid"] []) (gm__law_fault_holds : mg "_law_fault_holds" = some (.ref a__law_fault_holds)) (kp__law_fault_holds : PySem.W.keepIn K (.ref a__law_fault_holds) = true) : FnV P w K mg base 5 a fd ["script"] 0 F_law := by
  refine' fnv F sc_law (by decide) ?hw fun cdv A outer s H E hr => ?hb
  case hb =>
    have nd := sc_law.nd
    have u1 := Nat.lt_of_le_of_lt (Nat.add_le_add_left (show 1 ≤ 16 * 4 + 200 by decide) _) hr.un
    have u64 := Nat.lt_of_le_of_lt (Nat.add_le_add_left (show 64 ≤ 16 * 4 + 200 by decide) _) hr.un
    have u65 := Nat.lt_of_le_of_lt (Nat.add_le_add_left (show 65 ≤ 16 * 4 + 200 by decide) _) hr.un
    exact (pssv_cons (psv_set 1 nd (pev_call G__law_state runF_ok (hr.mono (by decide)) (by rfl) gm__law_state kp__law_state bi__law_state (pav_cons (pev_var 0) (pav_nil (x := false)))))
    (pssv_cons (psv_set 2 nd (pev_callM 1 G__law_braid runF_ok (by decide) (hr.mono (by decide)) (by rfl) gm__law_braid kp__law_braid bi__law_braid (pav_cons pev_int (pav_cons pev_int (pav_nil (x := false))))))
    (pssv_cons (psv_asg (pev_var 2) (pgv_tup rfl (pgsv_cons (pgv_name 3 nd) (pgsv_cons (pgv_name 4 nd) pgsv_nil))))
    (pssv_cons (psv_set 5 nd (pev_tup (pav_consX (pev_ali 3) (pav_consX (pev_chk (pev_ixA u1 (pev_callM 1 G__law_braid runF_ok (by decide) (hr.mono (by decide)) (by rfl) gm__law_braid kp__law_braid bi__law_braid (pav_cons pev_int (pav_cons pev_int (pav_nil (x := false))))) pev_int)) (pav_nil (x := true))))))
    (pssv_cons (psv_set 5 nd (pev_tup (pav_consX (pev_ali 3) (pav_consX (pev_callTy call_tuple_of cs_tuple (by rfl) z_tuple (by rfl) (pav_cons (pev_lcV (own := [("letter", 6)]) [6] rfl nd (piv_seq (pev_ixA u1 (pev_var 5) pev_int)) (blkOk_by (own := [("letter", 6)]) (N := N_law) (sc := defScope sf_law) (by decide +kernel)) (fun _ _ _ _ _ => (pgv_name 6 nd)) (fun _ _ _ _ _ => (ptsv_one (ptv_cmp op_lt os_B (pev_callB call_abs cs_abs (by rfl) z_abs (by rfl) (pav_cons (pev_var 6) (pav_nil (x := false)))) (pev_var 3) (nomark _)))) (fun _ _ _ _ _ => (pev_val 6))) (pav_nil (x := false)))) (pav_nil (x := true))))))
    (pssv_cons (psv_if (ptv_w (pwv_or (ptv_cmp (op_neD u64) os_ne (pev_call G_joined runF_ok (hr.mono (by decide)) (by rfl) gm_joined kp_joined bi_joined (pav_cons (pev_var 2) (pav_cons (pev_var 5) (pav_nil (x := false))))) (pev_tup (pav_consX (pev_ali 3) (pav_consX (pev_op op_addV os_add (pev_var 4) (pev_ixA u1 (pev_var 5) pev_int)) (pav_nil (x := true))))) (nomark _)) (pwv_or1 (ptv_cmp (op_neD u64) os_ne (pev_call G_undone runF_ok (hr.mono (by decide)) (by rfl) gm_undone kp_undone bi_undone (pav_cons (pev_var 2) (pav_nil (x := false)))) (pev_tup (pav_consX (pev_ali 3) (pav_consX (pev_callTy call_tuple_of cs_tuple (by rfl) z_tuple (by rfl) (pav_cons (pev_lcV (own := [("x", 7)]) [7] rfl nd (piv_seq (pev_revS (pev_var 4))) (blkOk_by (own := [("x", 7)]) (N := N_law) (sc := defScope sf_law) (by decide +kernel)) (fun _ _ _ _ _ => (pgv_name 7 nd)) (fun _ _ _ _ _ => ptsv_nil) (fun _ _ _ _ _ => (pev_op op_sub os_I pev_int (pev_var 7)))) (pav_nil (x := false)))) (pav_nil (x := true))))) (nomark _))))) (pssv_one (psv_ret pev_bl)) pssv_nil)
    (pssv_cons (psv_if (ptv_w (pwv_or (ptv_cmp (op_neD u64) os_ne (pev_call G_mirrored runF_ok (hr.mono (by decide)) (by rfl) gm_mirrored kp_mirrored bi_mirrored (pav_cons (pev_var 2) (pav_nil (x := false)))) (pev_tup (pav_consX (pev_ali 3) (pav_consX (pev_callTy call_tuple_of cs_tuple (by rfl) z_tuple (by rfl) (pav_cons (pev_lcV (own := [("x", 7)]) [7] rfl nd (piv_seq (pev_var 4)) (blkOk_by (own := [("x", 7)]) (N := N_law) (sc := defScope sf_law) (by decide +kernel)) (fun _ _ _ _ _ => (pgv_name 7 nd)) (fun _ _ _ _ _ => ptsv_nil) (fun _ _ _ _ _ => (pev_op op_sub os_I pev_int (pev_var 7)))) (pav_nil (x := false)))) (pav_nil (x := true))))) (nomark _)) (pwv_or1 (ptv_cmp (op_neD u64) os_ne (pev_call G_from_below runF_ok (hr.mono (by decide)) (by rfl) gm_from_below kp_from_below bi_from_below (pav_cons (pev_var 2) (pav_nil (x := false)))) (pev_tup (pav_consX (pev_ali 3) (pav_consX (pev_revS (pev_var 4)) (pav_nil (x := true))))) (nomark _))))) (pssv_one (psv_ret pev_bl)) pssv_nil)
    (pssv_cons (psv_if (ptv_w (pwv_or (ptv_cmp (op_neD u64) os_ne (pev_call G_turned runF_ok (hr.mono (by decide)) (by rfl) gm_turned kp_turned bi_turned (pav_cons (pev_var 2) (pav_nil (x := false)))) (pev_tup (pav_consX (pev_ali 3) (pav_consX (pev_callTy call_tuple_of cs_tuple (by rfl) z_tuple (by rfl) (pav_cons (pev_lcV (own := [("x", 7)]) [7] rfl nd (piv_seq (pev_var 4)) (blkOk_by (own := [("x", 7)]) (N := N_law) (sc := defScope sf_law) (by decide +kernel)) (fun _ _ _ _ _ => (pgv_name 7 nd)) (fun _ _ _ _ _ => ptsv_nil) (fun _ _ _ _ _ => (pev_op op_mulA os_mul (pev_call G__law_sign runF_ok (hr.mono (by decide)) (by rfl) gm__law_sign kp__law_sign bi__law_sign (pav_cons (pev_var 7) (pav_nil (x := false)))) (pev_op op_sub os_I (pev_var 3) (pev_callB call_abs cs_abs (by rfl) z_abs (by rfl) (pav_cons (pev_var 7) (pav_nil (x := false)))))))) (pav_nil (x := false)))) (pav_nil (x := true))))) (nomark _)) (pwv_or1 (ptv_cmp (op_neD u64) os_ne (pev_call G_trivial runF_ok (hr.mono (by decide)) (by rfl) gm_trivial kp_trivial bi_trivial (pav_cons (pev_var 3) (pav_nil (x := false)))) (pev_tup (pav_consX (pev_ali 3) (pav_consX (pev_tup (pav_nil (x := true))) (pav_nil (x := true))))) (nomark _))))) (pssv_one (psv_ret pev_bl)) pssv_nil)
    (pssv_cons (psv_set 8 nd (pev_op op_sub os_I (pev_callM 1 G__law_draw runF_ok (by decide) (hr.mono (by decide)) (by rfl) gm__law_draw kp__law_draw bi__law_draw (pav_cons pev_int (pav_nil (x := false)))) pev_int))
    (pssv_cons (psv_set 9 nd (pev_op op_mulA os_mul (pev_var 4) (pev_callB call_abs cs_abs (by rfl) z_abs (by rfl) (pav_cons (pev_var 8) (pav_nil (x := false))))))
    (pssv_cons (psv_if (ptv_cmp op_lt os_B (pev_var 8) pev_int (nomark _)) (pssv_one (psv_set 9 nd (pev_callTy call_tuple_of cs_tuple (by rfl) z_tuple (by rfl) (pav_cons (pev_lcV (own := [("x", 7)]) [7] rfl nd (piv_seq (pev_revS (pev_var 9))) (blkOk_by (own := [("x", 7)]) (N := N_law) (sc := defScope sf_law) (by decide +kernel)) (fun _ _ _ _ _ => (pgv_name 7 nd)) (fun _ _ _ _ _ => ptsv_nil) (fun _ _ _ _ _ => (pev_op op_sub os_I pev_int (pev_var 7)))) (pav_nil (x := false)))))) pssv_nil)
    (pssv_cons (psv_if (ptv_w (pwv_or (ptv_cmp (op_neD u64) os_ne (pev_call G_repeated runF_ok (hr.mono (by decide)) (by rfl) gm_repeated kp_repeated bi_repeated (pav_cons (pev_var 2) (pav_cons (pev_var 8) (pav_nil (x := false))))) (pev_tup (pav_consX (pev_ali 3) (pav_consX (pev_ali 9) (pav_nil (x := true))))) (nomark _)) (pwv_or1 (ptv_cmp (op_neD u64) os_ne (pev_call G_freely_reduced runF_ok (hr.mono (by decide)) (by rfl) gm_freely_reduced kp_freely_reduced bi_freely_reduced (pav_cons (pev_var 2) (pav_nil (x := false)))) (pev_tup (pav_consX (pev_ali 3) (pav_consX (pev_call G__law_reduced runF_ok (hr.mono (by decide)) (by rfl) gm__law_reduced kp__law_reduced bi__law_reduced (pav_cons (pev_var 4) (pav_nil (x := false)))) (pav_nil (x := true))))) (nomark _))))) (pssv_one (psv_ret pev_bl)) pssv_nil)
    (pssv_cons (psv_set 10 nd (pev_call G__law_order_of runF_ok (hr.mono (by decide)) (by rfl) gm__law_order_of kp__law_order_of bi__law_order_of (pav_cons (pev_var 2) (pav_nil (x := false)))))
    (pssv_cons (psv_set 11 nd (pev_call G__law_parts runF_ok (hr.mono (by decide)) (by rfl) gm__law_parts kp__law_parts bi__law_parts (pav_cons (pev_var 10) (pav_nil (x := false)))))
    (pssv_cons (psv_if (ptv_w (pwv_or (ptv_cmp (op_neD u64) os_ne (pev_call G_exponent_sum runF_ok (hr.mono (by decide)) (by rfl) gm_exponent_sum kp_exponent_sum bi_exponent_sum (pav_cons (pev_var 2) (pav_nil (x := false)))) (pev_callB (cr_sum rfl) cs_sum (by rfl) z_sum (by rfl) (pav_cons (pev_lcV (own := [("x", 7)]) [7] rfl nd (piv_seq (pev_var 4)) (blkOk_by (own := [("x", 7)]) (N := N_law) (sc := defScope sf_law) (by decide +kernel)) (fun _ _ _ _ _ => (pgv_name 7 nd)) (fun _ _ _ _ _ => ptsv_nil) (fun _ _ _ _ _ => (pev_call G__law_sign runF_ok (hr.mono (by decide)) (by rfl) gm__law_sign kp__law_sign bi__law_sign (pav_cons (pev_var 7) (pav_nil (x := false)))))) (pav_nil (x := false)))) (nomark _)) (pwv_or (ptv_cmp (op_neD u64) os_ne (pev_call G_order_of runF_ok (hr.mono (by decide)) (by rfl) gm_order_of kp_order_of bi_order_of (pav_cons (pev_var 2) (pav_nil (x := false)))) (pev_var 10) (nomark _)) (pwv_or1 (ptv_cmp (op_neD u64) os_ne (pev_call G_component_count runF_ok (hr.mono (by decide)) (by rfl) gm_component_count kp_component_count bi_component_count (pav_cons (pev_var 2) (pav_nil (x := false)))) (pev_callB call_lenV cs_len (by rfl) z_len (by rfl) (pav_cons (pev_var 11) (pav_nil (x := false)))) (nomark _)))))) (pssv_one (psv_ret pev_bl)) pssv_nil)
    (pssv_cons (psv_if (ptv_w (pwv_or (ptv_cmp (op_neT u64) (os_cmpT true) (pev_call G_crossing_table runF_ok (hr.mono (by decide)) (by rfl) gm_crossing_table kp_crossing_table bi_crossing_table (pav_cons (pev_var 2) (pav_nil (x := false)))) (pev_call G__law_table runF_ok (hr.mono (by decide)) (by rfl) gm__law_table kp__law_table bi__law_table (pav_cons (pev_var 2) (pav_nil (x := false)))) (nomark _)) (pwv_or1 (ptv_cmp (op_neD u64) os_ne (pev_call G_braid_linking_rows runF_ok (hr.mono (by decide)) (by rfl) gm_braid_linking_rows kp_braid_linking_rows bi_braid_linking_rows (pav_cons (pev_var 2) (pav_nil (x := false)))) (pev_call G__law_linking runF_ok (hr.mono (by decide)) (by rfl) gm__law_linking kp__law_linking bi__law_linking (pav_cons (pev_var 2) (pav_nil (x := false)))) (nomark _))))) (pssv_one (psv_ret pev_bl)) pssv_nil)
    (pssv_cons (psv_if (ptv_not (ptv_tr (pev_call G__law_truth runF_ok (hr.mono (by decide)) (by rfl) gm__law_truth kp__law_truth bi__law_truth (pav_cons (pev_call G_is_pure runF_ok (hr.mono (by decide)) (by rfl) gm_is_pure kp_is_pure bi_is_pure (pav_cons (pev_var 2) (pav_nil (x := false)))) (pav_cons (pev_cmp (op_eqD u64) os_eq (pev_var 10) (pev_callTy call_tuple_of cs_tuple (by rfl) z_tuple (by rfl) (pav_cons (pev_lcV (own := [("k", 12)]) [12] rfl nd (piv_range1 (by rfl) z_range (pav_cons (pev_var 3) (pav_nil (x := false)))) (blkOk_by (own := [("k", 12)]) (N := N_law) (sc := defScope sf_law) (by decide +kernel)) (fun _ _ _ _ _ => (pgv_name 12 nd)) (fun _ _ _ _ _ => ptsv_nil) (fun _ _ _ _ _ => (pev_op op_addV os_add (pev_var 12) pev_int))) (pav_nil (x := false)))) (nomark _)) (pav_nil (x := false))))))) (pssv_one (psv_ret pev_bl)) pssv_nil)
    (pssv_cons (psv_set 13 nd (pev_callM 1 G__law_draw runF_ok (by decide) (hr.mono (by decide)) (by rfl) gm__law_draw kp__law_draw bi__law_draw (pav_cons pev_int (pav_nil (x := false)))))
    (pssv_cons (psv_set 14 nd (pev_callTy call_tuple_of cs_tuple (by rfl) z_tuple (by rfl) (pav_cons (pev_lcV (own := [("x", 7)]) [7] rfl nd (piv_seq (pev_var 4)) (blkOk_by (own := [("x", 7)]) (N := N_law) (sc := defScope sf_law) (by decide +kernel)) (fun _ _ _ _ _ => (pgv_name 7 nd)) (fun _ _ _ _ _ => ptsv_nil) (fun _ _ _ _ _ => (pev_op op_addV os_add (pev_var 7) (pev_op op_mulA os_mul (pev_var 13) (pev_call G__law_sign runF_ok (hr.mono (by decide)) (by rfl) gm__law_sign kp__law_sign bi__law_sign (pav_cons (pev_var 7) (pav_nil (x := false)))))))) (pav_nil (x := false)))))
    (pssv_cons (psv_if (ptv_w (pwv_or (ptv_cmp (op_neD u64) os_ne (pev_call G_widened runF_ok (hr.mono (by decide)) (by rfl) gm_widened kp_widened bi_widened (pav_cons (pev_var 2) (pav_cons (pev_op op_addV os_add (pev_var 3) (pev_var 13)) (pav_nil (x := false))))) (pev_tup (pav_consX (pev_op op_addV os_add (pev_var 3) (pev_var 13)) (pav_consX (pev_ali 4) (pav_nil (x := true))))) (nomark _)) (pwv_or1 (ptv_cmp (op_neD u64) os_ne (pev_call G_shifted runF_ok (hr.mono (by decide)) (by rfl) gm_shifted kp_shifted bi_shifted (pav_cons (pev_var 2) (pav_cons (pev_var 13) (pav_nil (x := false))))) (pev_tup (pav_consX (pev_op op_addV os_add (pev_var 3) (pev_var 13)) (pav_consX (pev_ali 14) (pav_nil (x := true))))) (nomark _))))) (pssv_one (psv_ret pev_bl)) pssv_nil)
    (pssv_cons (psv_if (ptv_cmp (op_neD u64) os_ne (pev_call G_beside runF_ok (hr.mono (by decide)) (by rfl) gm_beside kp_beside bi_beside (pav_cons (pev_var 5) (pav_cons (pev_var 2) (pav_nil (x := false))))) (pev_tup (pav_consX (pev_op op_mulA os_mul pev_int (pev_var 3)) (pav_consX (pev_op op_addV os_add (pev_ixA u1 (pev_var 5) pev_int) (pev_callTy call_tuple_of cs_tuple (by rfl) z_tuple (by rfl) (pav_cons (pev_lcV (own := [("x", 7)]) [7] rfl nd (piv_seq (pev_var 4)) (blkOk_by (own := [("x", 7)]) (N := N_law) (sc := defScope sf_law) (by decide +kernel)) (fun _ _ _ _ _ => (pgv_name 7 nd)) (fun _ _ _ _ _ => ptsv_nil) (fun _ _ _ _ _ => (pev_op op_addV os_add (pev_var 7) (pev_op op_mulA os_mul (pev_var 3) (pev_call G__law_sign runF_ok (hr.mono (by decide)) (by rfl) gm__law_sign kp__law_sign bi__law_sign (pav_cons (pev_var 7) (pav_nil (x := false)))))))) (pav_nil (x := false))))) (pav_nil (x := true))))) (nomark _)) (pssv_one (psv_ret pev_bl)) pssv_nil)
    (pssv_cons (psv_set 15 nd (pev_lst (pav_nil (x := true))))
    (pssv_cons (psv_for PassesOwn.never rfl (piv_range3 (by rfl) z_range (pav_cons (pev_op op_sub os_I (pev_var 3) pev_int) (pav_cons pev_int (pav_cons (pev_un un_neg us_neg pev_int) (pav_nil (x := false)))))) (pgv_name 16 nd) (pssv_one (psv_set 15 nd (pev_op op_addV os_add (pev_var 15) (pev_lcV (own := [("k", 12)]) [12] rfl nd (piv_range1 (by rfl) z_range (pav_cons (pev_var 16) (pav_nil (x := false)))) (blkOk_by (own := [("k", 12)]) (N := N_law) (sc := defScope sf_law) (by decide +kernel)) (fun _ _ _ _ _ => (pgv_name 12 nd)) (fun _ _ _ _ _ => ptsv_nil) (fun _ _ _ _ _ => (pev_op op_addV os_add (pev_var 12) pev_int)))))))
    (pssv_cons (psv_set 17 nd (pev_callTy call_tuple_of cs_tuple (by rfl) z_tuple (by rfl) (pav_cons (pev_lcV (own := [("k", 12)]) [12] rfl nd (piv_range1 (by rfl) z_range (pav_cons (pev_op op_sub os_I (pev_var 3) pev_int) (pav_nil (x := false)))) (blkOk_by (own := [("k", 12)]) (N := N_law) (sc := defScope sf_law) (by decide +kernel)) (fun _ _ _ _ _ => (pgv_name 12 nd)) (fun _ _ _ _ _ => ptsv_nil) (fun _ _ _ _ _ => (pev_op op_addV os_add (pev_var 12) pev_int))) (pav_nil (x := false)))))
    (pssv_cons (psv_if (ptv_w (pwv_or (ptv_cmp (op_neD u64) os_ne (pev_call G_half_twist runF_ok (hr.mono (by decide)) (by rfl) gm_half_twist kp_half_twist bi_half_twist (pav_cons (pev_var 3) (pav_nil (x := false)))) (pev_tup (pav_consX (pev_ali 3) (pav_consX (pev_callTy call_tuple_of cs_tuple (by rfl) z_tuple (by rfl) (pav_cons (pev_var 15) (pav_nil (x := false)))) (pav_nil (x := true))))) (nomark _)) (pwv_or1 (ptv_cmp (op_neD u64) os_ne (pev_call G_full_twist runF_ok (hr.mono (by decide)) (by rfl) gm_full_twist kp_full_twist bi_full_twist (pav_cons (pev_var 3) (pav_nil (x := false)))) (pev_tup (pav_consX (pev_ali 3) (pav_consX (pev_op op_mulA os_mul (pev_var 17) (pev_var 3)) (pav_nil (x := true))))) (nomark _))))) (pssv_one (psv_ret pev_bl)) pssv_nil)
    (pssv_cons (psv_if (ptv_w (pwv_or (ptv_cmp (op_neD u64) os_ne (pev_call G_torus_braid runF_ok (hr.mono (by decide)) (by rfl) gm_torus_braid kp_torus_braid bi_torus_braid (pav_cons (pev_var 3) (pav_cons (pev_callB call_abs cs_abs (by rfl) z_abs (by rfl) (pav_cons (pev_var 8) (pav_nil (x := false)))) (pav_nil (x := false))))) (pev_tup (pav_consX (pev_ali 3) (pav_consX (pev_op op_mulA os_mul (pev_var 17) (pev_callB call_abs cs_abs (by rfl) z_abs (by rfl) (pav_cons (pev_var 8) (pav_nil (x := false))))) (pav_nil (x := true))))) (nomark _)) (pwv_or1 (ptv_cmp (op_neD u64) os_ne (pev_call G_torus_braid runF_ok (hr.mono (by decide)) (by rfl) gm_torus_braid kp_torus_braid bi_torus_braid (pav_cons (pev_var 3) (pav_cons (pev_un un_neg us_neg pev_int) (pav_nil (x := false))))) (pev_tup (pav_consX (pev_ali 3) (pav_consX (pev_callTy call_tuple_of cs_tuple (by rfl) z_tuple (by rfl) (pav_cons (pev_lcV (own := [("x", 7)]) [7] rfl nd (piv_seq (pev_revS (pev_var 17))) (blkOk_by (own := [("x", 7)]) (N := N_law) (sc := defScope sf_law) (by decide +kernel)) (fun _ _ _ _ _ => (pgv_name 7 nd)) (fun _ _ _ _ _ => ptsv_nil) (fun _ _ _ _ _ => (pev_op op_sub os_I pev_int (pev_var 7)))) (pav_nil (x := false)))) (pav_nil (x := true))))) (nomark _))))) (pssv_one (psv_ret pev_bl)) pssv_nil)
    (pssv_cons (psv_set 18 nd (pev_lst (pav_nil (x := true))))
    (pssv_cons (psv_for PassesOwn.never rfl (piv_seq (pev_var 4)) (pgv_name 7 nd) (pssv_one (psv_set 18 nd (pev_op op_addV os_add (pev_var 18) (pev_lcV (own := [("y", 19)]) [19] rfl nd (piv_seq (pev_lst (pav_consX (pev_op op_mulA os_mul pev_int (pev_callB call_abs cs_abs (by rfl) z_abs (by rfl) (pav_cons (pev_var 7) (pav_nil (x := false))))) (pav_consX (pev_op op_sub os_I (pev_op op_mulA os_mul pev_int (pev_callB call_abs cs_abs (by rfl) z_abs (by rfl) (pav_cons (pev_var 7) (pav_nil (x := false))))) pev_int) (pav_consX (pev_op op_addV os_add (pev_op op_mulA os_mul pev_int (pev_callB call_abs cs_abs (by rfl) z_abs (by rfl) (pav_cons (pev_var 7) (pav_nil (x := false))))) pev_int) (pav_consX (pev_op op_mulA os_mul pev_int (pev_callB call_abs cs_abs (by rfl) z_abs (by rfl) (pav_cons (pev_var 7) (pav_nil (x := false))))) (pav_nil (x := true)))))))) (blkOk_by (own := [("y", 19)]) (N := N_law) (sc := defScope sf_law) (by decide +kernel)) (fun _ _ _ _ _ => (pgv_name 19 nd)) (fun _ _ _ _ _ => ptsv_nil) (fun _ _ _ _ _ => (pev_op op_mulA os_mul (pev_call G__law_sign runF_ok (hr.mono (by decide)) (by rfl) gm__law_sign kp__law_sign bi__law_sign (pav_cons (pev_var 7) (pav_nil (x := false)))) (pev_var 19))))))))
    (pssv_one (psv_ret (pev_and (pev_cmp (op_eqD u64) os_eq (pev_call G_doubled runF_ok (hr.mono (by decide)) (by rfl) gm_doubled kp_doubled bi_doubled (pav_cons (pev_var 2) (pav_nil (x := false)))) (pev_tup (pav_consX (pev_op op_mulA os_mul pev_int (pev_var 3)) (pav_consX (pev_callTy call_tuple_of cs_tuple (by rfl) z_tuple (by rfl) (pav_cons (pev_var 18) (pav_nil (x := false)))) (pav_nil (x := true))))) (nomark _)) (pev_one (pev_callM 1 G__law_fault_holds runF_ok (by decide) (hr.mono (by decide)) (by rfl) gm__law_fault_holds kp__law_fault_holds bi__law_fault_holds (pav_cons (pev_var 2) (pav_nil (x := false))))))))))))))))))))))))))))))))))))
  case hw => decide
end
theorem all_mk {l : PySem.W.OpenLaw} {w : World} {K : PySem.W.Frag} {h : Heap} {mg : Str → Option Value} {fa : Addr} (X : K.In h) (G : h.Ns mainGlobals mg) (hfa : mg "law" = some (.ref fa))
    {oc0 kV0 dc0 pm0 cd0 ct0 : Value} {od0 an0 : Option Addr} {sl0 : Array (Option Value)} {f0 : Addr} {oc1 kV1 dc1 pm1 cd1 ct1 : Value} {od1 an1 : Option Addr} {sl1 : Array (Option Value)} {f1 : Addr} {oc2 kV2 dc2 pm2 cd2 ct2 : Value} {od2 an2 : Option Addr} {sl2 : Array (Option Value)} {f2 : Addr} {oc3 kV3 dc3 pm3 cd3 ct3 : Value} {od3 an3 : Option Addr} {sl3 : Array (Option Value)} {f3 : Addr} {oc4 kV4 dc4 pm4 cd4 ct4 : Value} {od4 an4 : Option Addr} {sl4 : Array (Option Value)} {f4 : Addr} {oc5 kV5 dc5 pm5 cd5 ct5 : Value} {od5 an5 : Option Addr} {sl5 : Array (Option Value)} {f5 : Addr} {oc6 kV6 dc6 pm6 cd6 ct6 : Value} {od6 an6 : Option Addr} {sl6 : Array (Option Value)} {f6 : Addr} {oc7 kV7 dc7 pm7 cd7 ct7 : Value} {od7 an7 : Option Addr} {sl7 : Array (Option Value)} {f7 : Addr} {oc8 kV8 dc8 pm8 cd8 ct8 : Value} {od8 an8 : Option Addr} {sl8 : Array (Option Value)} {f8 : Addr} {oc9 kV9 dc9 pm9 cd9 ct9 : Value} {od9 an9 : Option Addr} {sl9 : Array (Option Value)} {f9 : Addr} {oc10 kV10 dc10 pm10 cd10 ct10 : Value} {od10 an10 : Option Addr} {sl10 : Array (Option Value)} {f10 : Addr} {oc11 kV11 dc11 pm11 cd11 ct11 : Value} {od11 an11 : Option Addr} {sl11 : Array (Option Value)} {f11 : Addr} {oc12 kV12 dc12 pm12 cd12 ct12 : Value} {od12 an12 : Option Addr} {sl12 : Array (Option Value)} {f12 : Addr} {oc13 kV13 dc13 pm13 cd13 ct13 : Value} {od13 an13 : Option Addr} {sl13 : Array (Option Value)} {f13 : Addr} {oc14 kV14 dc14 pm14 cd14 ct14 : Value} {od14 an14 : Option Addr} {sl14 : Array (Option Value)} {f14 : Addr} {oc15 kV15 dc15 pm15 cd15 ct15 : Value} {od15 an15 : Option Addr} {sl15 : Array (Option Value)} {f15 : Addr} {oc16 kV16 dc16 pm16 cd16 ct16 : Value} {od16 an16 : Option Addr} {sl16 : Array (Option Value)} {f16 : Addr} {oc17 kV17 dc17 pm17 cd17 ct17 : Value} {od17 an17 : Option Addr} {sl17 : Array (Option Value)} {f17 : Addr} {oc18 kV18 dc18 pm18 cd18 ct18 : Value} {od18 an18 : Option Addr} {sl18 : Array (Option Value)} {f18 : Addr} {oc19 kV19 dc19 pm19 cd19 ct19 : Value} {od19 an19 : Option Addr} {sl19 : Array (Option Value)} {f19 : Addr} {oc20 kV20 dc20 pm20 cd20 ct20 : Value} {od20 an20 : Option Addr} {sl20 : Array (Option Value)} {f20 : Addr} {oc21 kV21 dc21 pm21 cd21 ct21 : Value} {od21 an21 : Option Addr} {sl21 : Array (Option Value)} {f21 : Addr} {oc22 kV22 dc22 pm22 cd22 ct22 : Value} {od22 an22 : Option Addr} {sl22 : Array (Option Value)} {f22 : Addr} {oc23 kV23 dc23 pm23 cd23 ct23 : Value} {od23 an23 : Option Addr} {sl23 : Array (Option Value)} {f23 : Addr} {oc24 kV24 dc24 pm24 cd24 ct24 : Value} {od24 an24 : Option Addr} {sl24 : Array (Option Value)} {f24 : Addr} {oc25 kV25 dc25 pm25 cd25 ct25 : Value} {od25 an25 : Option Addr} {sl25 : Array (Option Value)} {f25 : Addr} {oc26 kV26 dc26 pm26 cd26 ct26 : Value} {od26 an26 : Option Addr} {sl26 : Array (Option Value)} {f26 : Addr} {oc27 kV27 dc27 pm27 cd27 ct27 : Value} {od27 an27 : Option Addr} {sl27 : Array (Option Value)} {f27 : Addr} {oc28 kV28 dc28 pm28 cd28 ct28 : Value} {od28 an28 : Option Addr} {sl28 : Array (Option Value)} {f28 : Addr} {oc29 kV29 dc29 pm29 cd29 ct29 : Value} {od29 an29 : Option Addr} {sl29 : Array (Option Value)} {f29 : Addr} {oc30 kV30 dc30 pm30 cd30 ct30 : Value} {od30 an30 : Option Addr} {sl30 : Array (Option Value)} {f30 : Addr} {oc31 kV31 dc31 pm31 cd31 ct31 : Value} {od31 an31 : Option Addr} {sl31 : Array (Option Value)} {f31 : Addr} {oc32 kV32 dc32 pm32 cd32 ct32 : Value} {od32 an32 : Option Addr} {sl32 : Array (Option Value)} {f32 : Addr} {oc33 kV33 dc33 pm33 cd33 ct33 : Value} {od33 an33 : Option Addr} {sl33 : Array (Option Value)} {f33 : Addr} {oc34 kV34 dc34 pm34 cd34 ct34 : Value} {od34 an34 : Option Addr} {sl34 : Array (Option Value)} {f34 : Addr} {oc35 kV35 dc35 pm35 cd35 ct35 : Value} {od35 an35 : Option Addr} {sl35 : Array (Option Value)} {f35 : Addr} {oc36 kV36 dc36 pm36 cd36 ct36 : Value} {od36 an36 : Option Addr} {sl36 : Array (Option Value)} {f36 : Addr} {oc37 kV37 dc37 pm37 cd37 ct37 : Value} {od37 an37 : Option Addr} {sl37 : Array (Option Value)} {f37 : Addr} {oc38 kV38 dc38 pm38 cd38 ct38 : Value} {od38 an38 : Option Addr} {sl38 : Array (Option Value)} {f38 : Addr} {oc39 kV39 dc39 pm39 cd39 ct39 : Value} {od39 an39 : Option Addr} {sl39 : Array (Option Value)} {f39 : Addr} {oc40 kV40 dc40 pm40 cd40 ct40 : Value} {od40 an40 : Option Addr} {sl40 : Array (Option Value)} {f40 : Addr} {oc41 kV41 dc41 pm41 cd41 ct41 : Value} {od41 an41 : Option Addr} {sl41 : Array (Option Value)} {f41 : Addr} {t_MOST_STRANDS_0 : Tok}
    (a0 : PySem.W.nsIn K mainGlobals "straight" = some (some (.ref f0)))
    (l0 : K.lookup f0 = some ⟨oc0, od0, .func (PySem.W.fnOf "straight" "straight" (defArgs sf_straight) (defBody sf_straight) (defScope sf_straight) .none kV0 dc0 pm0 an0 cd0 ct0), sl0⟩)
    (c0 : PySem.W.codeIn K cd0 "straight" = true)
    (k0 : PySem.W.keepIn K (.ref f0) = true)
    (a1 : PySem.W.nsIn K mainGlobals "after" = some (some (.ref f1)))
    (l1 : K.lookup f1 = some ⟨oc1, od1, .func (PySem.W.fnOf "after" "after" (defArgs sf_after) (defBody sf_after) (defScope sf_after) .none kV1 dc1 pm1 an1 cd1 ct1), sl1⟩)
    (c1 : PySem.W.codeIn K cd1 "after" = true)
    (k1 : PySem.W.keepIn K (.ref f1) = true)
    (a2 : PySem.W.nsIn K mainGlobals "swap" = some (some (.ref f2)))
    (l2 : K.lookup f2 = some ⟨oc2, od2, .func (PySem.W.fnOf "swap" "swap" (defArgs sf_swap) (defBody sf_swap) (defScope sf_swap) .none kV2 dc2 pm2 an2 cd2 ct2), sl2⟩)
    (c2 : PySem.W.codeIn K cd2 "swap" = true)
    (k2 : PySem.W.keepIn K (.ref f2) = true)
    (a3 : PySem.W.nsIn K mainGlobals "circles" = some (some (.ref f3)))
    (l3 : K.lookup f3 = some ⟨oc3, od3, .func (PySem.W.fnOf "circles" "circles" (defArgs sf_circles) (defBody sf_circles) (defScope sf_circles) .none kV3 dc3 pm3 an3 cd3 ct3), sl3⟩)
    (c3 : PySem.W.codeIn K cd3 "circles" = true)
    (k3 : PySem.W.keepIn K (.ref f3) = true)
    (a4 : PySem.W.nsIn K mainGlobals "is_integer" = some (some (.ref f4)))
    (l4 : K.lookup f4 = some ⟨oc4, od4, .func (PySem.W.fnOf "is_integer" "is_integer" (defArgs sf_is_integer) (defBody sf_is_integer) (defScope sf_is_integer) .none kV4 dc4 pm4 an4 cd4 ct4), sl4⟩)
    (c4 : PySem.W.codeIn K cd4 "is_integer" = true)
    (k4 : PySem.W.keepIn K (.ref f4) = true)
    (a5 : PySem.W.nsIn K mainGlobals "is_between" = some (some (.ref f5)))
    (l5 : K.lookup f5 = some ⟨oc5, od5, .func (PySem.W.fnOf "is_between" "is_between" (defArgs sf_is_between) (defBody sf_is_between) (defScope sf_is_between) .none kV5 dc5 pm5 an5 cd5 ct5), sl5⟩)
    (c5 : PySem.W.codeIn K cd5 "is_between" = true)
    (k5 : PySem.W.keepIn K (.ref f5) = true)
    (a6 : PySem.W.nsIn K mainGlobals "is_row" = some (some (.ref f6)))
    (l6 : K.lookup f6 = some ⟨oc6, od6, .func (PySem.W.fnOf "is_row" "is_row" (defArgs sf_is_row) (defBody sf_is_row) (defScope sf_is_row) .none kV6 dc6 pm6 an6 cd6 ct6), sl6⟩)
    (c6 : PySem.W.codeIn K cd6 "is_row" = true)
    (k6 : PySem.W.keepIn K (.ref f6) = true)
    (a7 : PySem.W.nsIn K mainGlobals "signum" = some (some (.ref f7)))
    (l7 : K.lookup f7 = some ⟨oc7, od7, .func (PySem.W.fnOf "signum" "signum" (defArgs sf_signum) (defBody sf_signum) (defScope sf_signum) .none kV7 dc7 pm7 an7 cd7 ct7), sl7⟩)
    (c7 : PySem.W.codeIn K cd7 "signum" = true)
    (k7 : PySem.W.keepIn K (.ref f7) = true)
    (a8 : PySem.W.nsIn K mainGlobals "braid_fault" = some (some (.ref f8)))
    (l8 : K.lookup f8 = some ⟨oc8, od8, .func (PySem.W.fnOf "braid_fault" "braid_fault" (defArgs sf_braid_fault) (defBody sf_braid_fault) (defScope sf_braid_fault) .none kV8 dc8 pm8 an8 cd8 ct8), sl8⟩)
    (c8 : PySem.W.codeIn K cd8 "braid_fault" = true)
    (k8 : PySem.W.keepIn K (.ref f8) = true)
    (a9 : PySem.W.nsIn K mainGlobals "trivial" = some (some (.ref f9)))
    (l9 : K.lookup f9 = some ⟨oc9, od9, .func (PySem.W.fnOf "trivial" "trivial" (defArgs sf_trivial) (defBody sf_trivial) (defScope sf_trivial) .none kV9 dc9 pm9 an9 cd9 ct9), sl9⟩)
    (c9 : PySem.W.codeIn K cd9 "trivial" = true)
    (k9 : PySem.W.keepIn K (.ref f9) = true)
    (a10 : PySem.W.nsIn K mainGlobals "joined" = some (some (.ref f10)))
    (l10 : K.lookup f10 = some ⟨oc10, od10, .func (PySem.W.fnOf "joined" "joined" (defArgs sf_joined) (defBody sf_joined) (defScope sf_joined) .none kV10 dc10 pm10 an10 cd10 ct10), sl10⟩)
    (c10 : PySem.W.codeIn K cd10 "joined" = true)
    (k10 : PySem.W.keepIn K (.ref f10) = true)
    (a11 : PySem.W.nsIn K mainGlobals "undone" = some (some (.ref f11)))
    (l11 : K.lookup f11 = some ⟨oc11, od11, .func (PySem.W.fnOf "undone" "undone" (defArgs sf_undone) (defBody sf_undone) (defScope sf_undone) .none kV11 dc11 pm11 an11 cd11 ct11), sl11⟩)
    (c11 : PySem.W.codeIn K cd11 "undone" = true)
    (k11 : PySem.W.keepIn K (.ref f11) = true)
    (a12 : PySem.W.nsIn K mainGlobals "mirrored" = some (some (.ref f12)))
    (l12 : K.lookup f12 = some ⟨oc12, od12, .func (PySem.W.fnOf "mirrored" "mirrored" (defArgs sf_mirrored) (defBody sf_mirrored) (defScope sf_mirrored) .none kV12 dc12 pm12 an12 cd12 ct12), sl12⟩)
    (c12 : PySem.W.codeIn K cd12 "mirrored" = true)
    (k12 : PySem.W.keepIn K (.ref f12) = true)
    (a13 : PySem.W.nsIn K mainGlobals "turned" = some (some (.ref f13)))
    (l13 : K.lookup f13 = some ⟨oc13, od13, .func (PySem.W.fnOf "turned" "turned" (defArgs sf_turned) (defBody sf_turned) (defScope sf_turned) .none kV13 dc13 pm13 an13 cd13 ct13), sl13⟩)
    (c13 : PySem.W.codeIn K cd13 "turned" = true)
    (k13 : PySem.W.keepIn K (.ref f13) = true)
    (a14 : PySem.W.nsIn K mainGlobals "from_below" = some (some (.ref f14)))
    (l14 : K.lookup f14 = some ⟨oc14, od14, .func (PySem.W.fnOf "from_below" "from_below" (defArgs sf_from_below) (defBody sf_from_below) (defScope sf_from_below) .none kV14 dc14 pm14 an14 cd14 ct14), sl14⟩)
    (c14 : PySem.W.codeIn K cd14 "from_below" = true)
    (k14 : PySem.W.keepIn K (.ref f14) = true)
    (a15 : PySem.W.nsIn K mainGlobals "repeated" = some (some (.ref f15)))
    (l15 : K.lookup f15 = some ⟨oc15, od15, .func (PySem.W.fnOf "repeated" "repeated" (defArgs sf_repeated) (defBody sf_repeated) (defScope sf_repeated) .none kV15 dc15 pm15 an15 cd15 ct15), sl15⟩)
    (c15 : PySem.W.codeIn K cd15 "repeated" = true)
    (k15 : PySem.W.keepIn K (.ref f15) = true)
    (a16 : PySem.W.nsIn K mainGlobals "freely_reduced" = some (some (.ref f16)))
    (l16 : K.lookup f16 = some ⟨oc16, od16, .func (PySem.W.fnOf "freely_reduced" "freely_reduced" (defArgs sf_freely_reduced) (defBody sf_freely_reduced) (defScope sf_freely_reduced) .none kV16 dc16 pm16 an16 cd16 ct16), sl16⟩)
    (c16 : PySem.W.codeIn K cd16 "freely_reduced" = true)
    (k16 : PySem.W.keepIn K (.ref f16) = true)
    (a17 : PySem.W.nsIn K mainGlobals "exponent_sum" = some (some (.ref f17)))
    (l17 : K.lookup f17 = some ⟨oc17, od17, .func (PySem.W.fnOf "exponent_sum" "exponent_sum" (defArgs sf_exponent_sum) (defBody sf_exponent_sum) (defScope sf_exponent_sum) .none kV17 dc17 pm17 an17 cd17 ct17), sl17⟩)
    (c17 : PySem.W.codeIn K cd17 "exponent_sum" = true)
    (k17 : PySem.W.keepIn K (.ref f17) = true)
    (a18 : PySem.W.nsIn K mainGlobals "order_of" = some (some (.ref f18)))
    (l18 : K.lookup f18 = some ⟨oc18, od18, .func (PySem.W.fnOf "order_of" "order_of" (defArgs sf_order_of) (defBody sf_order_of) (defScope sf_order_of) .none kV18 dc18 pm18 an18 cd18 ct18), sl18⟩)
    (c18 : PySem.W.codeIn K cd18 "order_of" = true)
    (k18 : PySem.W.keepIn K (.ref f18) = true)
    (a19 : PySem.W.nsIn K mainGlobals "component_count" = some (some (.ref f19)))
    (l19 : K.lookup f19 = some ⟨oc19, od19, .func (PySem.W.fnOf "component_count" "component_count" (defArgs sf_component_count) (defBody sf_component_count) (defScope sf_component_count) .none kV19 dc19 pm19 an19 cd19 ct19), sl19⟩)
    (c19 : PySem.W.codeIn K cd19 "component_count" = true)
    (k19 : PySem.W.keepIn K (.ref f19) = true)
    (a20 : PySem.W.nsIn K mainGlobals "crossing_table" = some (some (.ref f20)))
    (l20 : K.lookup f20 = some ⟨oc20, od20, .func (PySem.W.fnOf "crossing_table" "crossing_table" (defArgs sf_crossing_table) (defBody sf_crossing_table) (defScope sf_crossing_table) .none kV20 dc20 pm20 an20 cd20 ct20), sl20⟩)
    (c20 : PySem.W.codeIn K cd20 "crossing_table" = true)
    (k20 : PySem.W.keepIn K (.ref f20) = true)
    (a21 : PySem.W.nsIn K mainGlobals "is_pure" = some (some (.ref f21)))
    (l21 : K.lookup f21 = some ⟨oc21, od21, .func (PySem.W.fnOf "is_pure" "is_pure" (defArgs sf_is_pure) (defBody sf_is_pure) (defScope sf_is_pure) .none kV21 dc21 pm21 an21 cd21 ct21), sl21⟩)
    (c21 : PySem.W.codeIn K cd21 "is_pure" = true)
    (k21 : PySem.W.keepIn K (.ref f21) = true)
    (a22 : PySem.W.nsIn K mainGlobals "braid_linking_rows" = some (some (.ref f22)))
    (l22 : K.lookup f22 = some ⟨oc22, od22, .func (PySem.W.fnOf "braid_linking_rows" "braid_linking_rows" (defArgs sf_braid_linking_rows) (defBody sf_braid_linking_rows) (defScope sf_braid_linking_rows) .none kV22 dc22 pm22 an22 cd22 ct22), sl22⟩)
    (c22 : PySem.W.codeIn K cd22 "braid_linking_rows" = true)
    (k22 : PySem.W.keepIn K (.ref f22) = true)
    (a23 : PySem.W.nsIn K mainGlobals "widened" = some (some (.ref f23)))
    (l23 : K.lookup f23 = some ⟨oc23, od23, .func (PySem.W.fnOf "widened" "widened" (defArgs sf_widened) (defBody sf_widened) (defScope sf_widened) .none kV23 dc23 pm23 an23 cd23 ct23), sl23⟩)
    (c23 : PySem.W.codeIn K cd23 "widened" = true)
    (k23 : PySem.W.keepIn K (.ref f23) = true)
    (a24 : PySem.W.nsIn K mainGlobals "shifted" = some (some (.ref f24)))
    (l24 : K.lookup f24 = some ⟨oc24, od24, .func (PySem.W.fnOf "shifted" "shifted" (defArgs sf_shifted) (defBody sf_shifted) (defScope sf_shifted) .none kV24 dc24 pm24 an24 cd24 ct24), sl24⟩)
    (c24 : PySem.W.codeIn K cd24 "shifted" = true)
    (k24 : PySem.W.keepIn K (.ref f24) = true)
    (a25 : PySem.W.nsIn K mainGlobals "beside" = some (some (.ref f25)))
    (l25 : K.lookup f25 = some ⟨oc25, od25, .func (PySem.W.fnOf "beside" "beside" (defArgs sf_beside) (defBody sf_beside) (defScope sf_beside) .none kV25 dc25 pm25 an25 cd25 ct25), sl25⟩)
    (c25 : PySem.W.codeIn K cd25 "beside" = true)
    (k25 : PySem.W.keepIn K (.ref f25) = true)
    (a26 : PySem.W.nsIn K mainGlobals "full_twist" = some (some (.ref f26)))
    (l26 : K.lookup f26 = some ⟨oc26, od26, .func (PySem.W.fnOf "full_twist" "full_twist" (defArgs sf_full_twist) (defBody sf_full_twist) (defScope sf_full_twist) .none kV26 dc26 pm26 an26 cd26 ct26), sl26⟩)
    (c26 : PySem.W.codeIn K cd26 "full_twist" = true)
    (k26 : PySem.W.keepIn K (.ref f26) = true)
    (a27 : PySem.W.nsIn K mainGlobals "half_twist" = some (some (.ref f27)))
    (l27 : K.lookup f27 = some ⟨oc27, od27, .func (PySem.W.fnOf "half_twist" "half_twist" (defArgs sf_half_twist) (defBody sf_half_twist) (defScope sf_half_twist) .none kV27 dc27 pm27 an27 cd27 ct27), sl27⟩)
    (c27 : PySem.W.codeIn K cd27 "half_twist" = true)
    (k27 : PySem.W.keepIn K (.ref f27) = true)
    (a28 : PySem.W.nsIn K mainGlobals "torus_braid" = some (some (.ref f28)))
    (l28 : K.lookup f28 = some ⟨oc28, od28, .func (PySem.W.fnOf "torus_braid" "torus_braid" (defArgs sf_torus_braid) (defBody sf_torus_braid) (defScope sf_torus_braid) .none kV28 dc28 pm28 an28 cd28 ct28), sl28⟩)
    (c28 : PySem.W.codeIn K cd28 "torus_braid" = true)
    (k28 : PySem.W.keepIn K (.ref f28) = true)
    (a29 : PySem.W.nsIn K mainGlobals "doubled" = some (some (.ref f29)))
    (l29 : K.lookup f29 = some ⟨oc29, od29, .func (PySem.W.fnOf "doubled" "doubled" (defArgs sf_doubled) (defBody sf_doubled) (defScope sf_doubled) .none kV29 dc29 pm29 an29 cd29 ct29), sl29⟩)
    (c29 : PySem.W.codeIn K cd29 "doubled" = true)
    (k29 : PySem.W.keepIn K (.ref f29) = true)
    (a30 : PySem.W.nsIn K mainGlobals "_law_state" = some (some (.ref f30)))
    (l30 : K.lookup f30 = some ⟨oc30, od30, .func (PySem.W.fnOf "_law_state" "_law_state" (defArgs sf__law_state) (defBody sf__law_state) (defScope sf__law_state) .none kV30 dc30 pm30 an30 cd30 ct30), sl30⟩)
    (c30 : PySem.W.codeIn K cd30 "_law_state" = true)
    (k30 : PySem.W.keepIn K (.ref f30) = true)
    (a31 : PySem.W.nsIn K mainGlobals "_law_draw" = some (some (.ref f31)))
    (l31 : K.lookup f31 = some ⟨oc31, od31, .func (PySem.W.fnOf "_law_draw" "_law_draw" (defArgs sf__law_draw) (defBody sf__law_draw) (defScope sf__law_draw) .none kV31 dc31 pm31 an31 cd31 ct31), sl31⟩)
    (c31 : PySem.W.codeIn K cd31 "_law_draw" = true)
    (k31 : PySem.W.keepIn K (.ref f31) = true)
    (a32 : PySem.W.nsIn K mainGlobals "_law_truth" = some (some (.ref f32)))
    (l32 : K.lookup f32 = some ⟨oc32, od32, .func (PySem.W.fnOf "_law_truth" "_law_truth" (defArgs sf__law_truth) (defBody sf__law_truth) (defScope sf__law_truth) .none kV32 dc32 pm32 an32 cd32 ct32), sl32⟩)
    (c32 : PySem.W.codeIn K cd32 "_law_truth" = true)
    (k32 : PySem.W.keepIn K (.ref f32) = true)
    (a33 : PySem.W.nsIn K mainGlobals "_law_braid" = some (some (.ref f33)))
    (l33 : K.lookup f33 = some ⟨oc33, od33, .func (PySem.W.fnOf "_law_braid" "_law_braid" (defArgs sf__law_braid) (defBody sf__law_braid) (defScope sf__law_braid) .none kV33 dc33 pm33 an33 cd33 ct33), sl33⟩)
    (c33 : PySem.W.codeIn K cd33 "_law_braid" = true)
    (k33 : PySem.W.keepIn K (.ref f33) = true)
    (a34 : PySem.W.nsIn K mainGlobals "_law_order_of" = some (some (.ref f34)))
    (l34 : K.lookup f34 = some ⟨oc34, od34, .func (PySem.W.fnOf "_law_order_of" "_law_order_of" (defArgs sf__law_order_of) (defBody sf__law_order_of) (defScope sf__law_order_of) .none kV34 dc34 pm34 an34 cd34 ct34), sl34⟩)
    (c34 : PySem.W.codeIn K cd34 "_law_order_of" = true)
    (k34 : PySem.W.keepIn K (.ref f34) = true)
    (a35 : PySem.W.nsIn K mainGlobals "_law_sign" = some (some (.ref f35)))
    (l35 : K.lookup f35 = some ⟨oc35, od35, .func (PySem.W.fnOf "_law_sign" "_law_sign" (defArgs sf__law_sign) (defBody sf__law_sign) (defScope sf__law_sign) .none kV35 dc35 pm35 an35 cd35 ct35), sl35⟩)
    (c35 : PySem.W.codeIn K cd35 "_law_sign" = true)
    (k35 : PySem.W.keepIn K (.ref f35) = true)
    (a36 : PySem.W.nsIn K mainGlobals "_law_table" = some (some (.ref f36)))
    (l36 : K.lookup f36 = some ⟨oc36, od36, .func (PySem.W.fnOf "_law_table" "_law_table" (defArgs sf__law_table) (defBody sf__law_table) (defScope sf__law_table) .none kV36 dc36 pm36 an36 cd36 ct36), sl36⟩)
    (c36 : PySem.W.codeIn K cd36 "_law_table" = true)
    (k36 : PySem.W.keepIn K (.ref f36) = true)
    (a37 : PySem.W.nsIn K mainGlobals "_law_parts" = some (some (.ref f37)))
    (l37 : K.lookup f37 = some ⟨oc37, od37, .func (PySem.W.fnOf "_law_parts" "_law_parts" (defArgs sf__law_parts) (defBody sf__law_parts) (defScope sf__law_parts) .none kV37 dc37 pm37 an37 cd37 ct37), sl37⟩)
    (c37 : PySem.W.codeIn K cd37 "_law_parts" = true)
    (k37 : PySem.W.keepIn K (.ref f37) = true)
    (a38 : PySem.W.nsIn K mainGlobals "_law_linking" = some (some (.ref f38)))
    (l38 : K.lookup f38 = some ⟨oc38, od38, .func (PySem.W.fnOf "_law_linking" "_law_linking" (defArgs sf__law_linking) (defBody sf__law_linking) (defScope sf__law_linking) .none kV38 dc38 pm38 an38 cd38 ct38), sl38⟩)
    (c38 : PySem.W.codeIn K cd38 "_law_linking" = true)
    (k38 : PySem.W.keepIn K (.ref f38) = true)
    (a39 : PySem.W.nsIn K mainGlobals "_law_reduced" = some (some (.ref f39)))
    (l39 : K.lookup f39 = some ⟨oc39, od39, .func (PySem.W.fnOf "_law_reduced" "_law_reduced" (defArgs sf__law_reduced) (defBody sf__law_reduced) (defScope sf__law_reduced) .none kV39 dc39 pm39 an39 cd39 ct39), sl39⟩)
    (c39 : PySem.W.codeIn K cd39 "_law_reduced" = true)
    (k39 : PySem.W.keepIn K (.ref f39) = true)
    (a40 : PySem.W.nsIn K mainGlobals "_law_fault_holds" = some (some (.ref f40)))
    (l40 : K.lookup f40 = some ⟨oc40, od40, .func (PySem.W.fnOf "_law_fault_holds" "_law_fault_holds" (defArgs sf__law_fault_holds) (defBody sf__law_fault_holds) (defScope sf__law_fault_holds) .none kV40 dc40 pm40 an40 cd40 ct40), sl40⟩)
    (c40 : PySem.W.codeIn K cd40 "_law_fault_holds" = true)
    (k40 : PySem.W.keepIn K (.ref f40) = true)
    (a41 : PySem.W.nsIn K mainGlobals "law" = some (some (.ref f41)))
    (l41 : K.lookup f41 = some ⟨oc41, od41, .func (PySem.W.fnOf "law" "law" (defArgs sf_law) (defBody sf_law) (defScope sf_law) .none kV41 dc41 pm41 an41 cd41 ct41), sl41⟩)
    (c41 : PySem.W.codeIn K cd41 "law" = true)
    (k41 : PySem.W.keepIn K (.ref f41) = true)
    (z_abs : PySem.W.nsIn K mainGlobals "abs" = some none)
    (z_any : PySem.W.nsIn K mainGlobals "any" = some none)
    (z_bool : PySem.W.nsIn K mainGlobals "bool" = some none)
    (z_enumerate : PySem.W.nsIn K mainGlobals "enumerate" = some none)
    (z_int : PySem.W.nsIn K mainGlobals "int" = some none)
    (z_isinstance : PySem.W.nsIn K mainGlobals "isinstance" = some none)
    (z_len : PySem.W.nsIn K mainGlobals "len" = some none)
    (z_list : PySem.W.nsIn K mainGlobals "list" = some none)
    (z_max : PySem.W.nsIn K mainGlobals "max" = some none)
    (z_min : PySem.W.nsIn K mainGlobals "min" = some none)
    (z_range : PySem.W.nsIn K mainGlobals "range" = some none)
    (z_reversed : PySem.W.nsIn K mainGlobals "reversed" = some none)
    (z_sorted : PySem.W.nsIn K mainGlobals "sorted" = some none)
    (z_sum : PySem.W.nsIn K mainGlobals "sum" = some none)
    (z_tuple : PySem.W.nsIn K mainGlobals "tuple" = some none)
    (b_MOST_STRANDS : PySem.W.nsIn K mainGlobals "MOST_STRANDS" = some (some (.int 12 t_MOST_STRANDS_0))) :
    ∃ fd : FuncData, (∀ (s : Shared) (v : Value), BindsTo s fd ⟨[v], []⟩ [("script", v)]) ∧ ∀ base : Heap, K.In base → base.Ns mainGlobals mg → FnOk l.prog w K mg base CX0 5 fa fd ["script"] (spV K 1 0 F_law) := by
  have e := hfa.symm.trans (PySem.W.mg_of X G a41)
  cases e
  have F0 := fun_mk (st := sf_straight) l0 c0 k0
  have bi0 := F0.binds (ps := ["size"]) fun _ _ _ _ _ _ us hl => match us, hl with | [_], _ => rfl
  have F1 := fun_mk (st := sf_after) l1 c1 k1
  have bi1 := F1.binds (ps := ["one", "other"]) fun _ _ _ _ _ _ us hl => match us, hl with | [_, _], _ => rfl
  have F2 := fun_mk (st := sf_swap) l2 c2 k2
  have bi2 := F2.binds (ps := ["size", "place"]) fun _ _ _ _ _ _ us hl => match us, hl with | [_, _], _ => rfl
  have F3 := fun_mk (st := sf_circles) l3 c3 k3
  have bi3 := F3.binds (ps := ["one"]) fun _ _ _ _ _ _ us hl => match us, hl with | [_], _ => rfl
  have F4 := fun_mk (st := sf_is_integer) l4 c4 k4
  have bi4 := F4.binds (ps := ["value"]) fun _ _ _ _ _ _ us hl => match us, hl with | [_], _ => rfl
  have F5 := fun_mk (st := sf_is_between) l5 c5 k5
  have bi5 := F5.binds (ps := ["value", "least", "most"]) fun _ _ _ _ _ _ us hl => match us, hl with | [_, _, _], _ => rfl
  have F6 := fun_mk (st := sf_is_row) l6 c6 k6
  have bi6 := F6.binds (ps := ["value", "length"]) fun _ _ _ _ _ _ us hl => match us, hl with | [_, _], _ => rfl
  have F7 := fun_mk (st := sf_signum) l7 c7 k7
  have bi7 := F7.binds (ps := ["number"]) fun _ _ _ _ _ _ us hl => match us, hl with | [_], _ => rfl
  have F8 := fun_mk (st := sf_braid_fault) l8 c8 k8
  have bi8 := F8.binds (ps := ["value"]) fun _ _ _ _ _ _ us hl => match us, hl with | [_], _ => rfl
  have F9 := fun_mk (st := sf_trivial) l9 c9 k9
  have bi9 := F9.binds (ps := ["strands"]) fun _ _ _ _ _ _ us hl => match us, hl with | [_], _ => rfl
  have F10 := fun_mk (st := sf_joined) l10 c10 k10
  have bi10 := F10.binds (ps := ["one", "other"]) fun _ _ _ _ _ _ us hl => match us, hl with | [_, _], _ => rfl
  have F11 := fun_mk (st := sf_undone) l11 c11 k11
  have bi11 := F11.binds (ps := ["braid"]) fun _ _ _ _ _ _ us hl => match us, hl with | [_], _ => rfl
  have F12 := fun_mk (st := sf_mirrored) l12 c12 k12
  have bi12 := F12.binds (ps := ["braid"]) fun _ _ _ _ _ _ us hl => match us, hl with | [_], _ => rfl
  have F13 := fun_mk (st := sf_turned) l13 c13 k13
  have bi13 := F13.binds (ps := ["braid"]) fun _ _ _ _ _ _ us hl => match us, hl with | [_], _ => rfl
  have F14 := fun_mk (st := sf_from_below) l14 c14 k14
  have bi14 := F14.binds (ps := ["braid"]) fun _ _ _ _ _ _ us hl => match us, hl with | [_], _ => rfl
  have F15 := fun_mk (st := sf_repeated) l15 c15 k15
  have bi15 := F15.binds (ps := ["braid", "count"]) fun _ _ _ _ _ _ us hl => match us, hl with | [_, _], _ => rfl
  have F16 := fun_mk (st := sf_freely_reduced) l16 c16 k16
  have bi16 := F16.binds (ps := ["braid"]) fun _ _ _ _ _ _ us hl => match us, hl with | [_], _ => rfl
  have F17 := fun_mk (st := sf_exponent_sum) l17 c17 k17
  have bi17 := F17.binds (ps := ["braid"]) fun _ _ _ _ _ _ us hl => match us, hl with | [_], _ => rfl
  have F18 := fun_mk (st := sf_order_of) l18 c18 k18
  have bi18 := F18.binds (ps := ["braid"]) fun _ _ _ _ _ _ us hl => match us, hl with | [_], _ => rfl
  have F19 := fun_mk (st := sf_component_count) l19 c19 k19
  have bi19 := F19.binds (ps := ["braid"]) fun _ _ _ _ _ _ us hl => match us, hl with | [_], _ => rfl
  have F20 := fun_mk (st := sf_crossing_table) l20 c20 k20
  have bi20 := F20.binds (ps := ["braid"]) fun _ _ _ _ _ _ us hl => match us, hl with | [_], _ => rfl
  have F21 := fun_mk (st := sf_is_pure) l21 c21 k21
  have bi21 := F21.binds (ps := ["braid"]) fun _ _ _ _ _ _ us hl => match us, hl with | [_], _ => rfl
  have F22 := fun_mk (st := sf_braid_linking_rows) l22 c22 k22
  have bi22 := F22.binds (ps := ["braid"]) fun _ _ _ _ _ _ us hl => match us, hl with | [_], _ => rfl
  have F23 := fun_mk (st := sf_widened) l23 c23 k23
  have bi23 := F23.binds (ps := ["braid", "strands"]) fun _ _ _ _ _ _ us hl => match us, hl with | [_, _], _ => rfl
  have F24 := fun_mk (st := sf_shifted) l24 c24 k24
  have bi24 := F24.binds (ps := ["braid", "count"]) fun _ _ _ _ _ _ us hl => match us, hl with | [_, _], _ => rfl
  have F25 := fun_mk (st := sf_beside) l25 c25 k25
  have bi25 := F25.binds (ps := ["one", "other"]) fun _ _ _ _ _ _ us hl => match us, hl with | [_, _], _ => rfl
  have F26 := fun_mk (st := sf_full_twist) l26 c26 k26
  have bi26 := F26.binds (ps := ["strands"]) fun _ _ _ _ _ _ us hl => match us, hl with | [_], _ => rfl
  have F27 := fun_mk (st := sf_half_twist) l27 c27 k27
  have bi27 := F27.binds (ps := ["strands"]) fun _ _ _ _ _ _ us hl => match us, hl with | [_], _ => rfl
  have F28 := fun_mk (st := sf_torus_braid) l28 c28 k28
  have bi28 := F28.binds (ps := ["strands", "turns"]) fun _ _ _ _ _ _ us hl => match us, hl with | [_, _], _ => rfl
  have F29 := fun_mk (st := sf_doubled) l29 c29 k29
  have bi29 := F29.binds (ps := ["braid"]) fun _ _ _ _ _ _ us hl => match us, hl with | [_], _ => rfl
  have F30 := fun_mk (st := sf__law_state) l30 c30 k30
  have bi30 := F30.binds (ps := ["script"]) fun _ _ _ _ _ _ us hl => match us, hl with | [_], _ => rfl
  have F31 := fun_mk (st := sf__law_draw) l31 c31 k31
  have bi31 := F31.binds (ps := ["state", "limit"]) fun _ _ _ _ _ _ us hl => match us, hl with | [_, _], _ => rfl
  have F32 := fun_mk (st := sf__law_truth) l32 c32 k32
  have bi32 := F32.binds (ps := ["told", "due"]) fun _ _ _ _ _ _ us hl => match us, hl with | [_, _], _ => rfl
  have F33 := fun_mk (st := sf__law_braid) l33 c33 k33
  have bi33 := F33.binds (ps := ["state", "most", "length"]) fun _ _ _ _ _ _ us hl => match us, hl with | [_, _, _], _ => rfl
  have F34 := fun_mk (st := sf__law_order_of) l34 c34 k34
  have bi34 := F34.binds (ps := ["braid"]) fun _ _ _ _ _ _ us hl => match us, hl with | [_], _ => rfl
  have F35 := fun_mk (st := sf__law_sign) l35 c35 k35
  have bi35 := F35.binds (ps := ["letter"]) fun _ _ _ _ _ _ us hl => match us, hl with | [_], _ => rfl
  have F36 := fun_mk (st := sf__law_table) l36 c36 k36
  have bi36 := F36.binds (ps := ["braid"]) fun _ _ _ _ _ _ us hl => match us, hl with | [_], _ => rfl
  have F37 := fun_mk (st := sf__law_parts) l37 c37 k37
  have bi37 := F37.binds (ps := ["order"]) fun _ _ _ _ _ _ us hl => match us, hl with | [_], _ => rfl
  have F38 := fun_mk (st := sf__law_linking) l38 c38 k38
  have bi38 := F38.binds (ps := ["braid"]) fun _ _ _ _ _ _ us hl => match us, hl with | [_], _ => rfl
  have F39 := fun_mk (st := sf__law_reduced) l39 c39 k39
  have bi39 := F39.binds (ps := ["letters"]) fun _ _ _ _ _ _ us hl => match us, hl with | [_], _ => rfl
  have F40 := fun_mk (st := sf__law_fault_holds) l40 c40 k40
  have bi40 := F40.binds (ps := ["state", "braid"]) fun _ _ _ _ _ _ us hl => match us, hl with | [_, _], _ => rfl
  have F41 := fun_mk (st := sf_law) l41 c41 k41
  have bi41 := F41.binds (ps := ["script"]) fun _ _ _ _ _ _ us hl => match us, hl with | [_], _ => rfl
  refine ⟨PySem.W.fnOf "law" "law" (defArgs sf_law) (defBody sf_law) (defScope sf_law) .none kV41 dc41 pm41 an41 cd41 ct41, fun s v => .of_eq rfl, fun base _ _ => ?_⟩
  have H30 := ok__law_state (P := l.prog) (w := w) (K := K) (mg := mg) (base := base) F30 (PySem.W.mg_none_of X G z_list)
  have H31 := ok__law_draw (P := l.prog) (w := w) (K := K) (mg := mg) (base := base) F31 (PySem.W.mg_none_of X G z_int) (PySem.W.mg_none_of X G z_len)
  have H33 := ok__law_braid (P := l.prog) (w := w) (K := K) (mg := mg) (base := base) F33 (PySem.W.mg_none_of X G z_range) (PySem.W.mg_none_of X G z_tuple) H31 bi31 (PySem.W.mg_of X G a31) F31.kp
  have H10 := ok_joined (P := l.prog) (w := w) (K := K) (mg := mg) (base := base) F10
  have H11 := ok_undone (P := l.prog) (w := w) (K := K) (mg := mg) (base := base) F11 (PySem.W.mg_none_of X G z_reversed) (PySem.W.mg_none_of X G z_tuple)
  have H12 := ok_mirrored (P := l.prog) (w := w) (K := K) (mg := mg) (base := base) F12 (PySem.W.mg_none_of X G z_tuple)
  have H14 := ok_from_below (P := l.prog) (w := w) (K := K) (mg := mg) (base := base) F14 (PySem.W.mg_none_of X G z_reversed) (PySem.W.mg_none_of X G z_tuple)
  have H7 := ok_signum (P := l.prog) (w := w) (K := K) (mg := mg) (base := base) F7
  have H13 := ok_turned (P := l.prog) (w := w) (K := K) (mg := mg) (base := base) F13 (PySem.W.mg_none_of X G z_abs) (PySem.W.mg_none_of X G z_tuple) H7 bi7 (PySem.W.mg_of X G a7) F7.kp
  have H35 := ok__law_sign (P := l.prog) (w := w) (K := K) (mg := mg) (base := base) F35 (PySem.W.mg_none_of X G z_int)
  have H9 := ok_trivial (P := l.prog) (w := w) (K := K) (mg := mg) (base := base) F9
  have H15 := ok_repeated (P := l.prog) (w := w) (K := K) (mg := mg) (base := base) F15 bi15 (PySem.W.mg_of X G a15) F15.kp H11 bi11 (PySem.W.mg_of X G a11) F11.kp
  have H16 := ok_freely_reduced (P := l.prog) (w := w) (K := K) (mg := mg) (base := base) F16 (PySem.W.mg_none_of X G z_tuple)
  have H39 := ok__law_reduced (P := l.prog) (w := w) (K := K) (mg := mg) (base := base) F39 (PySem.W.mg_none_of X G z_len) (PySem.W.mg_none_of X G z_list) (PySem.W.mg_none_of X G z_range) (PySem.W.mg_none_of X G z_tuple)
  have H34 := ok__law_order_of (P := l.prog) (w := w) (K := K) (mg := mg) (base := base) F34 (PySem.W.mg_none_of X G z_abs) (PySem.W.mg_none_of X G z_range) (PySem.W.mg_none_of X G z_tuple)
  have H37 := ok__law_parts (P := l.prog) (w := w) (K := K) (mg := mg) (base := base) F37 (PySem.W.mg_none_of X G z_len) (PySem.W.mg_none_of X G z_min) (PySem.W.mg_none_of X G z_range)
  have H17 := ok_exponent_sum (P := l.prog) (w := w) (K := K) (mg := mg) (base := base) F17 (PySem.W.mg_none_of X G z_sum) H7 bi7 (PySem.W.mg_of X G a7) F7.kp
  have H0 := ok_straight (P := l.prog) (w := w) (K := K) (mg := mg) (base := base) F0 (PySem.W.mg_none_of X G z_range) (PySem.W.mg_none_of X G z_tuple)
  have H1 := ok_after (P := l.prog) (w := w) (K := K) (mg := mg) (base := base) F1 (PySem.W.mg_none_of X G z_tuple)
  have H2 := ok_swap (P := l.prog) (w := w) (K := K) (mg := mg) (base := base) F2 (PySem.W.mg_none_of X G z_list) (PySem.W.mg_none_of X G z_range) (PySem.W.mg_none_of X G z_tuple)
  have H18 := ok_order_of (P := l.prog) (w := w) (K := K) (mg := mg) (base := base) F18 (PySem.W.mg_none_of X G z_abs) H0 bi0 (PySem.W.mg_of X G a0) F0.kp H1 bi1 (PySem.W.mg_of X G a1) F1.kp H2 bi2 (PySem.W.mg_of X G a2) F2.kp
  have H3 := ok_circles (P := l.prog) (w := w) (K := K) (mg := mg) (base := base) F3 (PySem.W.mg_none_of X G z_len) (PySem.W.mg_none_of X G z_range) (PySem.W.mg_none_of X G z_tuple)
  have H19 := ok_component_count (P := l.prog) (w := w) (K := K) (mg := mg) (base := base) F19 (PySem.W.mg_none_of X G z_len) H3 bi3 (PySem.W.mg_of X G a3) F3.kp H18 bi18 (PySem.W.mg_of X G a18) F18.kp
  have H20 := ok_crossing_table (P := l.prog) (w := w) (K := K) (mg := mg) (base := base) F20 (PySem.W.mg_none_of X G z_abs) (PySem.W.mg_none_of X G z_list) (PySem.W.mg_none_of X G z_range) (PySem.W.mg_none_of X G z_sorted) (PySem.W.mg_none_of X G z_tuple) H7 bi7 (PySem.W.mg_of X G a7) F7.kp
  have H36 := ok__law_table (P := l.prog) (w := w) (K := K) (mg := mg) (base := base) F36 (PySem.W.mg_none_of X G z_abs) (PySem.W.mg_none_of X G z_max) (PySem.W.mg_none_of X G z_min) (PySem.W.mg_none_of X G z_range) H35 bi35 (PySem.W.mg_of X G a35) F35.kp
  have H22 := ok_braid_linking_rows (P := l.prog) (w := w) (K := K) (mg := mg) (base := base) F22 (PySem.W.mg_none_of X G z_enumerate) (PySem.W.mg_none_of X G z_len) (PySem.W.mg_none_of X G z_tuple) H3 bi3 (PySem.W.mg_of X G a3) F3.kp H18 bi18 (PySem.W.mg_of X G a18) F18.kp H20 bi20 (PySem.W.mg_of X G a20) F20.kp
  have H38 := ok__law_linking (P := l.prog) (w := w) (K := K) (mg := mg) (base := base) F38 (PySem.W.mg_none_of X G z_tuple) H37 bi37 (PySem.W.mg_of X G a37) F37.kp H34 bi34 (PySem.W.mg_of X G a34) F34.kp H36 bi36 (PySem.W.mg_of X G a36) F36.kp
  have H32 := ok__law_truth (P := l.prog) (w := w) (K := K) (mg := mg) (base := base) F32
  have H21 := ok_is_pure (P := l.prog) (w := w) (K := K) (mg := mg) (base := base) F21 H18 bi18 (PySem.W.mg_of X G a18) F18.kp H0 bi0 (PySem.W.mg_of X G a0) F0.kp
  have H23 := ok_widened (P := l.prog) (w := w) (K := K) (mg := mg) (base := base) F23
  have H24 := ok_shifted (P := l.prog) (w := w) (K := K) (mg := mg) (base := base) F24 (PySem.W.mg_none_of X G z_tuple)
  have H25 := ok_beside (P := l.prog) (w := w) (K := K) (mg := mg) (base := base) F25 H24 bi24 (PySem.W.mg_of X G a24) F24.kp
  have H27 := ok_half_twist (P := l.prog) (w := w) (K := K) (mg := mg) (base := base) F27 (PySem.W.mg_none_of X G z_list) (PySem.W.mg_none_of X G z_range) (PySem.W.mg_none_of X G z_tuple)
  have H26 := ok_full_twist (P := l.prog) (w := w) (K := K) (mg := mg) (base := base) F26 (PySem.W.mg_none_of X G z_range) (PySem.W.mg_none_of X G z_tuple)
  have H28 := ok_torus_braid (P := l.prog) (w := w) (K := K) (mg := mg) (base := base) F28 (PySem.W.mg_none_of X G z_range) (PySem.W.mg_none_of X G z_tuple) H15 bi15 (PySem.W.mg_of X G a15) F15.kp
  have H29 := ok_doubled (P := l.prog) (w := w) (K := K) (mg := mg) (base := base) F29 (PySem.W.mg_none_of X G z_abs) (PySem.W.mg_none_of X G z_tuple) H7 bi7 (PySem.W.mg_of X G a7) F7.kp
  have H6 := ok_is_row (P := l.prog) (w := w) (K := K) (mg := mg) (base := base) F6 (PySem.W.mg_none_of X G z_isinstance) (PySem.W.mg_none_of X G z_len) (PySem.W.mg_none_of X G z_tuple)
  have H4 := ok_is_integer (P := l.prog) (w := w) (K := K) (mg := mg) (base := base) F4 (PySem.W.mg_none_of X G z_bool) (PySem.W.mg_none_of X G z_int) (PySem.W.mg_none_of X G z_isinstance)
  have H5 := ok_is_between (P := l.prog) (w := w) (K := K) (mg := mg) (base := base) F5 H4 bi4 (PySem.W.mg_of X G a4) F4.kp
  have H8 := ok_braid_fault (P := l.prog) (w := w) (K := K) (mg := mg) (base := base) F8 (PySem.W.mg_none_of X G z_abs) (PySem.W.mg_none_of X G z_any) (PySem.W.mg_none_of X G z_isinstance) (PySem.W.mg_none_of X G z_tuple) (PySem.W.mg_of X G b_MOST_STRANDS) .int H6 bi6 (PySem.W.mg_of X G a6) F6.kp H5 bi5 (PySem.W.mg_of X G a5) F5.kp H4 bi4 (PySem.W.mg_of X G a4) F4.kp
  have H40 := ok__law_fault_holds (P := l.prog) (w := w) (K := K) (mg := mg) (base := base) F40 (PySem.W.mg_none_of X G z_len) (PySem.W.mg_none_of X G z_list) H31 bi31 (PySem.W.mg_of X G a31) F31.kp H8 bi8 (PySem.W.mg_of X G a8) F8.kp
  have H41 := ok_law (P := l.prog) (w := w) (K := K) (mg := mg) (base := base) F41 (PySem.W.mg_none_of X G z_abs) (PySem.W.mg_none_of X G z_len) (PySem.W.mg_none_of X G z_range) (PySem.W.mg_none_of X G z_sum) (PySem.W.mg_none_of X G z_tuple) H30 bi30 (PySem.W.mg_of X G a30) F30.kp H33 bi33 (PySem.W.mg_of X G a33) F33.kp H10 bi10 (PySem.W.mg_of X G a10) F10.kp H11 bi11 (PySem.W.mg_of X G a11) F11.kp H12 bi12 (PySem.W.mg_of X G a12) F12.kp H14 bi14 (PySem.W.mg_of X G a14) F14.kp H13 bi13 (PySem.W.mg_of X G a13) F13.kp H35 bi35 (PySem.W.mg_of X G a35) F35.kp H9 bi9 (PySem.W.mg_of X G a9) F9.kp H31 bi31 (PySem.W.mg_of X G a31) F31.kp H15 bi15 (PySem.W.mg_of X G a15) F15.kp H16 bi16 (PySem.W.mg_of X G a16) F16.kp H39 bi39 (PySem.W.mg_of X G a39) F39.kp H34 bi34 (PySem.W.mg_of X G a34) F34.kp H37 bi37 (PySem.W.mg_of X G a37) F37.kp H17 bi17 (PySem.W.mg_of X G a17) F17.kp H18 bi18 (PySem.W.mg_of X G a18) F18.kp H19 bi19 (PySem.W.mg_of X G a19) F19.kp H20 bi20 (PySem.W.mg_of X G a20) F20.kp H36 bi36 (PySem.W.mg_of X G a36) F36.kp H22 bi22 (PySem.W.mg_of X G a22) F22.kp H38 bi38 (PySem.W.mg_of X G a38) F38.kp H32 bi32 (PySem.W.mg_of X G a32) F32.kp H21 bi21 (PySem.W.mg_of X G a21) F21.kp H23 bi23 (PySem.W.mg_of X G a23) F23.kp H24 bi24 (PySem.W.mg_of X G a24) F24.kp H25 bi25 (PySem.W.mg_of X G a25) F25.kp H27 bi27 (PySem.W.mg_of X G a27) F27.kp H26 bi26 (PySem.W.mg_of X G a26) F26.kp H28 bi28 (PySem.W.mg_of X G a28) F28.kp H29 bi29 (PySem.W.mg_of X G a29) F29.kp H40 bi40 (PySem.W.mg_of X G a40) F40.kp
  exact H41
end G09
namespace Vl
open PySem PySem.Spec PyProof.Rows L2
/-! ### running a mirror: each construct at an Env -/
@[simp] theorem chk_r (f : M D) (ρ : Env) : chk f ρ = ((f ρ).bind fun p => if p.1.noOwn = true then some p else none : Option (D × Env)) := rfl
@[simp] theorem fAli_r (i : Nat) (ρ : Env) : fAli i ρ = ((Env.at ρ i).bind fun d => if d.noOwn = true then some (d, ρ) else some (d.frz, ρ.set i (some d.frz)) : Option (D × Env)) := rfl
@[simp] theorem fAnd_r (fa fb : M Bool) (ρ : Env) : fAnd fa fb ρ = ((fa ρ).bind fun p => if p.1 = true then fb p.2 else some (false, p.2) : Option (Bool × Env)) := rfl
@[simp] theorem fAndV_r (fa fb : M D) (ρ : Env) : fAndV fa fb ρ = ((fB fa ρ).bind fun p => if p.1 = true then fb p.2 else some (.bl false, p.2) : Option (D × Env)) := rfl
@[simp] theorem fB_r (f : M D) (ρ : Env) : fB f ρ = ((f ρ).bind fun p => match p.1 with
  | .bl b => some (b, p.2)
  | _ => none : Option (Bool × Env)) := rfl
@[simp] theorem fC_r (d : D) (ρ : Env) : fC d ρ = (some (d, ρ) : Option (D × Env)) := rfl
@[simp] theorem fCall_r (F : FD) (fr : M (List D)) (ρ : Env) : fCall F fr ρ = ((fr ρ).bind fun p => (F (D.frzL p.1)).bind fun r => if (r.1.noFz || D.noOwnL p.1) = true then some (r.1, p.2) else none : Option (D × Env)) := rfl
@[simp] theorem fCallM_r (F : FD) (i : Nat) (fr : M (List D)) (ρ : Env) : fCallM F i fr ρ = ((Env.at ρ i).bind fun _ => (fr ρ).bind fun p => (Env.at p.2 i).bind fun o => if D.noOwnL p.1 = true then (F (o :: p.1)).bind fun r => match r.2 with
    | [o'] => some (r.1, p.2.set i (some o'))
    | _ => none
  else none : Option (D × Env)) := rfl
@[simp] theorem fChain_r (O1 T2 O2 T3 : List Nat) (g g' : D → D → Option D) (fa fb fc : M D) (ρ : Env) : fChain O1 T2 O2 T3 g g' fa fb fc ρ = ((fa ρ).bind fun p => (fb p.2).bind fun q => if safe O1 T2 p.1 = true then (g p.1 q.1).bind fun z => match z with
    | .bl true => (fc q.2).bind fun w => if safe O2 T3 q.1 = true then (g' q.1 w.1).bind fun d => some (d, w.2) else none
    | .bl false => some (.bl false, q.2)
    | _ => none
  else none : Option (D × Env)) := rfl
@[simp] theorem fCl_r (g : List D → Option D) (fr : M (List D)) (ρ : Env) : fCl g fr ρ = ((fr ρ).bind fun p => (g p.1).bind fun d => some (d, p.2) : Option (D × Env)) := rfl
@[simp] theorem fComp_r (vs : List Nat) (fi : M (List D)) (g : D → Env → Option Env) (ft : M Bool) (fe : M D) (ρ : Env) : fComp vs fi g ft fe ρ = ((fi ρ).bind fun p => if ownOk p.2 vs = true then (compL vs g ft fe p.1 p.2 []).bind fun q => some (.lst true q.1, backE p.2 q.2 vs) else none : Option (D × Env)) := rfl
@[simp] theorem fComp2_r (vs vs1 : List Nat) (fi : M (List D)) (g : D → Env → Option Env) (ft : M Bool) (fi1 : M (List D)) (g1 : D → Env → Option Env) (ft1 : M Bool) (fe : M D) (ρ : Env) : fComp2 vs vs1 fi g ft fi1 g1 ft1 fe ρ = ((fi ρ).bind fun p => if ownOk p.2 vs = true then (compL2 vs vs1 g ft fi1 g1 ft1 fe p.1 p.2 []).bind fun q => some (.lst true q.1, backE p.2 q.2 vs) else none : Option (D × Env)) := rfl
@[simp] theorem fCons_r (O1 T2 : List Nat) (fa : M D) (fr : M (List D)) (ρ : Env) : fCons O1 T2 fa fr ρ = ((fa ρ).bind fun p => (fr p.2).bind fun q => if safe O1 T2 p.1 = true then some (p.1 :: q.1, q.2) else none : Option ((List D) × Env)) := rfl
@[simp] theorem fDisp_r (ps : List (M D × M D)) (ρ : Env) : fDisp ps ρ = ((fPairs ps ρ).bind fun p => some (.dct true false (p.1.foldl (fun acc kv => putD acc kv.1 kv.2) []), p.2) : Option (D × Env)) := rfl
@[simp] theorem fDk_r (i : Nat) (f : M D) (ρ : Env) : fDk i f ρ = ((fzSlot i ρ).bind f : Option (D × Env)) := rfl
@[simp] theorem fDnew_r  (ρ : Env) : fDnew  ρ = (some (.dct true false [], ρ) : Option (D × Env)) := rfl
@[simp] theorem fDpop_r (i : Nat) (fk : M D) (ρ : Env) : fDpop i fk ρ = ((Env.at ρ i).bind fun o => match o with
  | .dct _ false _ => (fk ρ).bind fun p => (Env.at p.2 i).bind fun o' => (gDpop o' p.1).bind fun q => some (q.1, p.2.set i (some q.2))
  | _ => none : Option (D × Env)) := rfl
@[simp] theorem fFz_r (f : M D) (ρ : Env) : fFz f ρ = ((f ρ).bind fun p => some (p.1.frz, p.2) : Option (D × Env)) := rfl
@[simp] theorem fGet2_r (O0 T1 T2 : List Nat) (fo fk fx : M D) (ρ : Env) : fGet2 O0 T1 T2 fo fk fx ρ = ((fo ρ).bind fun p => (fk p.2).bind fun q => (fx q.2).bind fun r => if (safe O0 (T1 ++ T2) p.1 && q.1.noOwn && r.1.noOwn) = true then (gGet2 p.1 q.1 r.1).bind fun d => if d.noOwn = true then some (d, r.2) else none else none : Option (D × Env)) := rfl
@[simp] theorem fIf_r (ft : M Bool) (fa fb : M D) (ρ : Env) : fIf ft fa fb ρ = ((ft ρ).bind fun p => if p.1 = true then fa p.2 else fb p.2 : Option (D × Env)) := rfl
@[simp] theorem fIsN_r (c : String) (f : M D) (ρ : Env) : fIsN c f ρ = ((f ρ).bind fun p => if notLk p.1 = true then (kitB (tagOf p.1) c).bind fun b => some (.bl b, p.2) else none : Option (D × Env)) := rfl
@[simp] theorem fLst_r (fr : M (List D)) (ρ : Env) : fLst fr ρ = ((fr ρ).bind fun p => if szOk p.1.length = true then some (.lst true p.1, p.2) else none : Option (D × Env)) := rfl
@[simp] theorem fLstRg_r (fr : M (Int × Int)) (ρ : Env) : fLstRg fr ρ = ((fr ρ).bind fun p => if okRg p.1.1 p.1.2 = true then some (.lst true (rgItems p.1.1 (p.1.2 - p.1.1).toNat), p.2) else none : Option (D × Env)) := rfl
@[simp] theorem fMov_r (i : Nat) (ρ : Env) : fMov i ρ = ((Env.at ρ i).bind fun d => some (d, ρ.set i none) : Option (D × Env)) := rfl
@[simp] theorem fMut_r (i : Nat) (ty : String) (g : D → List D → Option (D × D)) (fr : M (List D)) (ρ : Env) : fMut i ty g fr ρ = ((Env.at ρ i).bind fun o => if tyIs ty o = true then (fr ρ).bind fun p => (Env.at p.2 i).bind fun o' => (g o' p.1).bind fun q => some (q.1, p.2.set i (some q.2)) else none : Option (D × Env)) := rfl
@[simp] theorem fNil_r  (ρ : Env) : fNil  ρ = (some ([], ρ) : Option ((List D) × Env)) := rfl
@[simp] theorem fNot_r (fa : M Bool) (ρ : Env) : fNot fa ρ = ((fa ρ).bind fun p => some (!p.1, p.2) : Option (Bool × Env)) := rfl
@[simp] theorem fNotV_r (fa : M D) (ρ : Env) : fNotV fa ρ = ((fB fa ρ).bind fun p => some (.bl (!p.1), p.2) : Option (D × Env)) := rfl
@[simp] theorem fOp_r (O1 T2 : List Nat) (g : D → D → Option D) (fa fb : M D) (ρ : Env) : fOp O1 T2 g fa fb ρ = ((fa ρ).bind fun p => (fb p.2).bind fun q => if safe O1 T2 p.1 = true then (g p.1 q.1).bind fun d => some (d, q.2) else none : Option (D × Env)) := rfl
@[simp] theorem fOr_r (fa fb : M Bool) (ρ : Env) : fOr fa fb ρ = ((fa ρ).bind fun p => if p.1 = true then some (true, p.2) else fb p.2 : Option (Bool × Env)) := rfl
@[simp] theorem fOrV_r (fa fb : M D) (ρ : Env) : fOrV fa fb ρ = ((fB fa ρ).bind fun p => if p.1 = true then some (.bl true, p.2) else fb p.2 : Option (D × Env)) := rfl
@[simp] theorem fSl_r (O1 T2 : List Nat) (f : M D) (fl fh : M (Option Int)) (ρ : Env) : fSl O1 T2 f fl fh ρ = ((f ρ).bind fun p => (fl p.2).bind fun l => (fh l.2).bind fun h => if safe O1 T2 p.1 = true then (gSl p.1 l.1 h.1).bind fun d => some (d, h.2) else none : Option (D × Env)) := rfl
@[simp] theorem fRevS_r (f : M D) (ρ : Env) : fRevS f ρ = ((f ρ).bind fun p => (gRevS p.1).bind fun d => some (d, p.2) : Option (D × Env)) := rfl
@[simp] theorem sUnp_r (n : Nat) (gs : List D → Env → Option Env) (f : M D) (ρ : Env) : sUnp n gs f ρ = ((f ρ).bind fun p => match p.1 with
  | .tup l => if (l.length == n && D.noOwnL l) = true then (gs l p.2).bind fun ρ' => some (.nx ρ') else none
  | .lst _ l => if (l.length == n && D.noOwnL l) = true then (gs l p.2).bind fun ρ' => some (.nx ρ') else none
  | _ => none : Option Res) := rfl
@[simp] theorem fTr_r (f : M D) (ρ : Env) : fTr f ρ = ((f ρ).bind fun p => (truth p.1).bind fun b => some (b, p.2) : Option (Bool × Env)) := rfl
@[simp] theorem fTup_r (fr : M (List D)) (ρ : Env) : fTup fr ρ = ((fr ρ).bind fun p => if szOk p.1.length = true then some (.tup p.1, p.2) else none : Option (D × Env)) := rfl
@[simp] theorem fTupRev_r (f : M D) (ρ : Env) : fTupRev f ρ = ((f ρ).bind fun p => (itemsOf p.1).bind fun l => some (.tup l.reverse, p.2) : Option (D × Env)) := rfl
@[simp] theorem fTupRg_r (fr : M (Int × Int)) (ρ : Env) : fTupRg fr ρ = ((fr ρ).bind fun p => if okRg p.1.1 p.1.2 = true then some (.tup (rgItems p.1.1 (p.1.2 - p.1.1).toNat), p.2) else none : Option (D × Env)) := rfl
@[simp] theorem fTupRg3_r (fr : M (List D)) (ρ : Env) : fTupRg3 fr ρ = ((fr ρ).bind fun p => (downOf p.1).bind fun q => if decide (q.2 ≤ 100000) = true then some (.tup (rgDown q.1 q.2), p.2) else none : Option (D × Env)) := rfl
@[simp] theorem fUn_r (g : D → Option D) (fa : M D) (ρ : Env) : fUn g fa ρ = ((fa ρ).bind fun p => (g p.1).bind fun d => some (d, p.2) : Option (D × Env)) := rfl
@[simp] theorem fVal_r (i : Nat) (ρ : Env) : fVal i ρ = ((Env.at ρ i).bind fun d => if d.noOwn = true then some (d, ρ) else none : Option (D × Env)) := rfl
@[simp] theorem fVar_r (i : Nat) (ρ : Env) : fVar i ρ = ((Env.at ρ i).bind fun d => some (d, ρ) : Option (D × Env)) := rfl
@[simp] theorem fYes_r  (ρ : Env) : fYes  ρ = (some (true, ρ) : Option (Bool × Env)) := rfl
@[simp] theorem iEnm_r (f : M D) (ρ : Env) : iEnm f ρ = ((f ρ).bind fun p => (itemsOf p.1).bind fun l => some (enumD 0 l, p.2) : Option ((List D) × Env)) := rfl
@[simp] theorem iKy_r (i : Nat) (ρ : Env) : iKy i ρ = ((Env.at ρ i).bind fun d => match d with
  | .dct false _ kvs => some (kvs.map (·.1), ρ)
  | _ => none : Option ((List D) × Env)) := rfl
@[simp] theorem iRev_r (f : M D) (ρ : Env) : iRev f ρ = ((f ρ).bind fun p => (itemsOf p.1).bind fun l => some (l.reverse, p.2) : Option ((List D) × Env)) := rfl
@[simp] theorem iRg1_r (fr : M (List D)) (ρ : Env) : iRg1 fr ρ = ((fr ρ).bind fun p => match p.1 with
  | [.int j] => if okR j = true then some (rgItems 0 j.toNat, p.2) else none
  | _ => none : Option ((List D) × Env)) := rfl
@[simp] theorem iRg2_r (fr : M (List D)) (ρ : Env) : iRg2 fr ρ = ((fr ρ).bind fun p => match p.1 with
  | [.int i, .int j] => if (okR i && okR j) = true then some (rgItems i (j - i).toNat, p.2) else none
  | _ => none : Option ((List D) × Env)) := rfl
@[simp] theorem iRg3_r (fr : M (List D)) (ρ : Env) : iRg3 fr ρ = ((fr ρ).bind fun p => (downOf p.1).bind fun q => some (rgDown q.1 q.2, p.2) : Option ((List D) × Env)) := rfl
@[simp] theorem iSeq_r (f : M D) (ρ : Env) : iSeq f ρ = ((f ρ).bind fun p => (itemsOf p.1).bind fun l => some (l, p.2) : Option ((List D) × Env)) := rfl
@[simp] theorem iSeqR_r (f : M D) (ρ : Env) : iSeqR f ρ = ((f ρ).bind fun p => if p.1.noOwn = true then (itemsOf p.1).bind fun l => some (l, p.2) else none : Option ((List D) × Env)) := rfl
@[simp] theorem oNone_r  (ρ : Env) : oNone  ρ = (some (none, ρ) : Option ((Option Int) × Env)) := rfl
@[simp] theorem oSome_r (f : M D) (ρ : Env) : oSome f ρ = ((f ρ).bind fun p => match p.1 with
  | .int i => some (some i, p.2)
  | _ => none : Option ((Option Int) × Env)) := rfl
@[simp] theorem rRg1_r (f : M D) (ρ : Env) : rRg1 f ρ = ((f ρ).bind fun p => match p.1 with
  | .int n => some ((0, n), p.2)
  | _ => none : Option ((Int × Int) × Env)) := rfl
@[simp] theorem rRg2_r (O1 T2 : List Nat) (f g : M D) (ρ : Env) : rRg2 O1 T2 f g ρ = ((f ρ).bind fun p => (g p.2).bind fun q => match p.1, q.1 with
  | .int i, .int j => some ((i, j), q.2)
  | _, _ => none : Option ((Int × Int) × Env)) := rfl
@[simp] theorem sAsg_r (g : D → Env → Option Env) (f : M D) (ρ : Env) : sAsg g f ρ = ((f ρ).bind fun p => if p.1.noOwn = true then (g p.1 p.2).bind fun ρ' => some (.nx ρ') else none : Option Res) := rfl
@[simp] theorem sAug_r (i : Nat) (T : List Nat) (g : D → D → Option D) (f : M D) (ρ : Env) : sAug i T g f ρ = ((Env.at ρ i).bind fun o => (f ρ).bind fun p => if safe [i] T o = true then (g o p.1).bind fun d => some (.nx (p.2.set i (some d))) else none : Option Res) := rfl
@[simp] theorem sAugS_r (i : Nat) (g : D → D → Option D) (fi fe : M D) (ρ : Env) : sAugS i g fi fe ρ = ((Env.at ρ i).bind fun _ => (fi ρ).bind fun p => (Env.at p.2 i).bind fun o => if p.1.noOwn = true then (gGet o p.1).bind fun d => if d.noOwn = true then
  (fe p.2).bind fun q => (g d q.1).bind fun z => if z.noOwn = true then (Env.at q.2 i).bind fun o2 => (gSet o2 p.1 z).bind fun d' => some (.nx (q.2.set i (some d'))) else none else none else none : Option Res) := rfl
@[simp] theorem sBk_r  (ρ : Env) : sBk  ρ = (some (.bk ρ) : Option Res) := rfl
@[simp] theorem sCt_r  (ρ : Env) : sCt  ρ = (some (.ct ρ) : Option Res) := rfl
@[simp] theorem sDk_r (i : Nat) (f : MS) (ρ : Env) : sDk i f ρ = ((fzSlot i ρ).bind f : Option Res) := rfl
@[simp] theorem sDrop_r (f : M D) (ρ : Env) : sDrop f ρ = ((f ρ).bind fun p => some (.nx p.2) : Option Res) := rfl
@[simp] theorem sFor_r (fi : M (List D)) (g : D → Env → Option Env) (body : MS) (ρ : Env) : sFor fi g body ρ = ((fi ρ).bind fun p => forL g body p.1 p.2 : Option Res) := rfl
@[simp] theorem sIf_r (c : M Bool) (a b : MS) (ρ : Env) : sIf c a b ρ = ((c ρ).bind fun p => if p.1 = true then a p.2 else b p.2 : Option Res) := rfl
@[simp] theorem sNil_r  (ρ : Env) : sNil  ρ = (some (.nx ρ) : Option Res) := rfl
@[simp] theorem sPar_r (i j : Nat) (f : M (List D)) (ρ : Env) : sPar i j f ρ = ((f ρ).bind fun p => match p.1 with
  | [d, e] => some (.nx ((p.2.set i (some d)).set j (some e)))
  | _ => none : Option Res) := rfl
@[simp] theorem sRet_r (f : M D) (ρ : Env) : sRet f ρ = ((f ρ).bind fun p => some (.rt p.1 p.2) : Option Res) := rfl
@[simp] theorem sRetN_r  (ρ : Env) : sRetN  ρ = (some (.rt .non ρ) : Option Res) := rfl
@[simp] theorem sSeq_r (a b : MS) (ρ : Env) : sSeq a b ρ = ((a ρ).bind fun r => match r with
  | .nx ρ' => b ρ'
  | r => some r : Option Res) := rfl
@[simp] theorem sSet_r (i : Nat) (f : M D) (ρ : Env) : sSet i f ρ = ((f ρ).bind fun p => some (.nx (p.2.set i (some p.1))) : Option Res) := rfl
@[simp] theorem at_r (ρ : Env) (i : Nat) : Env.at ρ i = (match ρ[i]? with
  | some (some d) => some d
  | _ => none) := by
  unfold Env.at
  cases ρ[i]? with
  | none => rfl
  | some o => cases o <;> rfl
@[simp] theorem noOwnL_ints (ns : List Int) : D.noOwnL (ns.map D.int) = true := by
  induction ns with
  | nil => rfl
  | cons n r ih => exact ih
@[simp] theorem noFzL_ints (ns : List Int) : D.noFzL (ns.map D.int) = true := by
  induction ns with
  | nil => rfl
  | cons n r ih => exact ih
@[simp] theorem frzL_ints (ns : List Int) : D.frzL (ns.map D.int) = ns.map D.int := by
  induction ns with
  | nil => rfl
  | cons n r ih =>
    show D.int n :: D.frzL (r.map D.int) = _
    rw [ih]
    rfl
end Vl

namespace Vl
open PySem PySem.Spec PyProof.Rows L2
@[simp] theorem safe_r1 (O : List Nat) (d : D) : safe O [] d = true := by
  unfold safe
  have : (O.all fun i => !([] : List Nat).contains i) = true := by simp
  rw [this]; rfl
@[simp] theorem safe_r2 (T : List Nat) (d : D) : safe [] T d = true := rfl
@[simp] theorem gIxA_l (o : Bool) (l : List D) (i : Int) : gIxA (.lst o l) (.int i) = L2.atI l i := rfl
@[simp] theorem gIxA_t (l : List D) (i : Int) : gIxA (.tup l) (.int i) = L2.atI l i := rfl
@[simp] theorem gEq_i (i j : Int) : gEq (.int i) (.int j) = some (.bl (decide (i = j))) := by
  unfold gEq
  rw [if_pos (by simp [eqOk, D.eok, D.dep])]
  simp only [pyEq, D.toP, PyData.eqv]
  first | rfl | rw [Bool.beq_eq_decide_eq]
@[simp] theorem gNe_i (i j : Int) : gNe (.int i) (.int j) = some (.bl (!decide (i = j))) := by
  unfold gNe
  rw [if_pos (by simp [eqOk, D.eok, D.dep])]
  simp only [pyEq, D.toP, PyData.eqv]
  first | rfl | rw [Bool.beq_eq_decide_eq]
@[simp] theorem gLt_i (i j : Int) : gLt (.int i) (.int j) = some (.bl (decide (i < j))) := rfl
@[simp] theorem gLe_i (i j : Int) : gLe (.int i) (.int j) = some (.bl (decide (i ≤ j))) := rfl
@[simp] theorem gGt_i (i j : Int) : gGt (.int i) (.int j) = some (.bl (decide (j < i))) := rfl
@[simp] theorem gGe_i (i j : Int) : gGe (.int i) (.int j) = some (.bl (decide (j ≤ i))) := rfl
@[simp] theorem gSub_i (i j : Int) : gSub (.int i) (.int j) = some (.int (i - j)) := rfl
@[simp] theorem gAdd_i (i j : Int) : gAdd (.int i) (.int j) = some (.int (i + j)) := rfl
@[simp] theorem gAddI_i (i j : Int) : gAddI (.int i) (.int j) = some (.int (i + j)) := rfl
@[simp] theorem gNeg_i (i : Int) : gNeg (.int i) = some (.int (-i)) := rfl
@[simp] theorem gLen_l (o : Bool) (l : List D) : gLen [.lst o l] = some (.int (l.length : Int)) := rfl
@[simp] theorem gLen_t (l : List D) : gLen [.tup l] = some (.int (l.length : Int)) := rfl
@[simp] theorem gInt_i (i : Int) : gInt [.int i] = some (.int i) := rfl
@[simp] theorem truth_b (b : Bool) : truth (.bl b) = some b := rfl
theorem gMul_i {i j : Int} (h : cMul i j = true) : gMul (.int i) (.int j) = some (.int (i * j)) := by
  show (if cMul i j = true then some (D.int (i * j)) else none) = _
  rw [if_pos h]
theorem gMod_i {i j : Int} (h : j ≠ 0) : gMod (.int i) (.int j) = some (.int (i.fmod j)) := by
  show (if cMod i j = true then some (D.int (i.fmod j)) else none) = _
  rw [if_pos (by simpa [cMod] using h)]
theorem gDiv_L {i j : Int} (h : j ≠ 0) (h2 : j.natAbs < 2 ^ 8000) : gDiv (.int i) (.int j) = some (.int (i.fdiv j)) := by
  show (if cDiv i j = true then some (D.int (i.fdiv j)) else none) = _
  rw [if_pos (by unfold cDiv; rw [decide_eq_true h, decide_eq_true h2]; rfl)]
theorem gDiv_i {i j : Int} (h : j ≠ 0) (h2 : j.natAbs < 1073741824) : gDiv (.int i) (.int j) = some (.int (i.fdiv j)) := by
  show (if cDiv i j = true then some (D.int (i.fdiv j)) else none) = _
  rw [if_pos (by unfold cDiv; rw [decide_eq_true h, decide_eq_true (Nat.lt_of_lt_of_le h2 (Nat.pow_le_pow_right (n := 2) (by decide) (show 30 ≤ 8000 by decide)))]; rfl)]
theorem gPow_i {i j : Int} (h : cPow i j = true) : gPow (.int i) (.int j) = some (.int (i ^ j.toNat)) := by
  show (if cPow i j = true then some (D.int (i ^ j.toNat)) else none) = _
  rw [if_pos h]
end Vl
namespace G09
open PySem PySem.Spec PyProof.Rows L2 Vl
def St (cells : List Int) (i cur left : Int) (big : Bool) : D := .lst true [.lst false (cells.map .int), .int i, .int cur, .int left, .bl big, .int 500]
theorem draw_end (cells : List Int) (i : Int) (limit : Int) (hl : 0 < limit) (h : (cells.length : Int) ≤ i) (cur : Int) (big : Bool) : F__law_draw [St cells i cur 0 big, .int limit] = some (.int 0, [St cells i cur 0 big]) := by
  unfold F__law_draw runF St
  simp [L2.atI, L2.ixN, h, outs]
theorem fmod_lo {a b : Int} (h : 0 < b) : 0 ≤ a.fmod b := by
  rw [Int.fmod_eq_emod_of_nonneg _ (Int.le_of_lt h)]
  exact Int.emod_nonneg _ (by omega)
theorem fmod_hi {a b : Int} (h : 0 < b) : a.fmod b < b := by
  rw [Int.fmod_eq_emod_of_nonneg _ (Int.le_of_lt h)]
  exact Int.emod_lt_of_pos _ h
theorem cMul_r {i j : Int} (h : j.natAbs < 2 ^ 63) : cMul i j = true := by simp [cMul, h]
/-- what the small draw reckons -/
theorem mixE (cur l1 limit : Int) (hl : 0 < limit) : ∃ m r, gMul (.int cur) (.int 48271) = some (.int (cur * 48271)) ∧ gMul (.int l1) (.int 69621) = some (.int (l1 * 69621)) ∧ gMod (.int (cur * 48271 + l1 * 69621 + 7)) (.int 2147483647) = some (.int m) ∧ gMul (.int m) (.int m) = some (.int (m * m)) ∧
    gMul (.int cur) (.int 31) = some (.int (cur * 31)) ∧ (∃ k, gMod (.int (m * m + cur * 31 + l1)) (.int 1000003) = some (.int k) ∧ gMod (.int k) (.int limit) = some (.int r)) ∧ 0 ≤ r ∧ r < limit := by
  have h0 : 0 ≤ (cur * 48271 + l1 * 69621 + 7).fmod 2147483647 := fmod_lo (by decide)
  have h1 : (cur * 48271 + l1 * 69621 + 7).fmod 2147483647 < 2147483647 := fmod_hi (by decide)
  exact ⟨_, _, gMul_i (cMul_r (by decide)), gMul_i (cMul_r (by decide)), gMod_i (by decide), gMul_i (cMul_r (by omega)), gMul_i (cMul_r (by decide)), ⟨_, gMod_i (by decide), gMod_i (by omega)⟩, fmod_lo hl, fmod_hi hl⟩
theorem atI_ints {cells : List Int} {i : Int} (h0 : 0 ≤ i) (h : i < (cells.length : Int)) : ∃ c, L2.atI (cells.map D.int) i = some (.int c) := by
  refine ⟨cells[i.toNat]'(by omega), ?_⟩
  unfold L2.atI L2.ixN
  rw [List.length_map, if_pos h0, if_pos h]
  show (cells.map D.int)[i.toNat]? = _
  rw [List.getElem?_map, List.getElem?_eq_getElem (by omega)]
  rfl
@[simp] theorem six0 (a b c d e f : D) : L2.atI [a, b, c, d, e, f] 0 = some a := rfl
@[simp] theorem six1 (a b c d e f : D) : L2.atI [a, b, c, d, e, f] 1 = some b := rfl
@[simp] theorem six2 (a b c d e f : D) : L2.atI [a, b, c, d, e, f] 2 = some c := rfl
@[simp] theorem six3 (a b c d e f : D) : L2.atI [a, b, c, d, e, f] 3 = some d := rfl
@[simp] theorem six4 (a b c d e f : D) : L2.atI [a, b, c, d, e, f] 4 = some e := rfl
theorem pow18 : gPow (.int 10) (.int 18) = some (.int 1000000000000000000) := gPow_i (by decide)
theorem draw_ok (cells : List Int) (i cur left limit : Int) (big : Bool) (hl : 0 < limit) (hl2 : limit < 1000000) (hi : 0 ≤ i) : ∃ r i' cur' left' big', F__law_draw [St cells i cur left big, .int limit] = some (.int r, [St cells i' cur' left' big']) ∧ 0 ≤ i' ∧ 0 ≤ r ∧ r < limit := by
  by_cases h0 : left = 0
  · subst h0
    by_cases hlen : (cells.length : Int) ≤ i
    · exact ⟨0, i, cur, 0, big, draw_end cells i limit hl hlen cur big, hi, Int.le_refl _, hl⟩
    · obtain ⟨c, hc⟩ := atI_ints hi (by omega : i < (cells.length : Int))
      obtain ⟨c', hc'⟩ : ∃ c', c' = if c < 0 then -1 - c else c := ⟨_, rfl⟩
      by_cases hb : 1000000000000000000 ≤ c'
      · have e1 : gMod (.int c') (.int limit) = some (.int (c'.fmod limit)) := gMod_i (by omega)
        have e2 : gDiv (.int c') (.int limit) = some (.int (c'.fdiv limit)) := gDiv_i (by omega) (by omega)
        by_cases hz : c'.fdiv limit = 0
        · refine ⟨c'.fmod limit, i + 1, 0, 0, true, ?_, by omega, fmod_lo hl, fmod_hi hl⟩
          unfold F__law_draw runF St
          by_cases hn : c < 0
          · rw [if_pos hn] at hc'
            subst hc'
            simp [L2.ixN, hlen, outs, gSt, gSet, D.noOwn, D.noOwnL, e1, e2, hc, hn, hb, hz, pow18]
          · rw [if_neg hn] at hc'
            subst hc'
            simp [L2.ixN, hlen, outs, gSt, gSet, D.noOwn, D.noOwnL, e1, e2, hc, hn, hb, hz, pow18]
        · refine ⟨c'.fmod limit, i + 1, c'.fdiv limit, 59, true, ?_, by omega, fmod_lo hl, fmod_hi hl⟩
          unfold F__law_draw runF St
          by_cases hn : c < 0
          · rw [if_pos hn] at hc'
            subst hc'
            simp [L2.ixN, hlen, outs, gSt, gSet, D.noOwn, D.noOwnL, e1, e2, hc, hn, hb, hz, pow18]
          · rw [if_neg hn] at hc'
            subst hc'
            simp [L2.ixN, hlen, outs, gSt, gSet, D.noOwn, D.noOwnL, e1, e2, hc, hn, hb, hz, pow18]
      · obtain ⟨m, r, e1, e2, e3, e4, e5, ⟨k, e6, e7⟩, r1, r2⟩ := mixE c' 5 limit hl
        have e3 : gMod (.int (c' * 48271 + 348105 + 7)) (.int 2147483647) = some (.int m) := e3
        refine ⟨r, i + 1, c', 5, false, ?_, by omega, r1, r2⟩
        unfold F__law_draw runF St
        by_cases hn : c < 0
        · rw [if_pos hn] at hc'
          subst hc'
          simp [L2.ixN, hlen, outs, gSt, gSet, D.noOwn, D.noOwnL, e1, e2, e3, e4, e5, e6, e7, hc, hn, hb, pow18]
        · rw [if_neg hn] at hc'
          subst hc'
          simp [L2.ixN, hlen, outs, gSt, gSet, D.noOwn, D.noOwnL, e1, e2, e3, e4, e5, e6, e7, hc, hn, hb, pow18]
  · cases big with
    | false =>
      obtain ⟨m, r, e1, e2, e3, e4, e5, ⟨k, e6, e7⟩, r1, r2⟩ := mixE cur (left - 1) limit hl
      refine ⟨r, i, cur, left - 1, false, ?_, hi, r1, r2⟩
      unfold F__law_draw runF St
      simp [L2.ixN, h0, outs, gSt, gSet, D.noOwn, D.noOwnL, e1, e2, e3, e4, e5, e6, e7]
    | true =>
      have e1 : gMod (.int cur) (.int limit) = some (.int (cur.fmod limit)) := gMod_i (by omega)
      have e2 : gDiv (.int cur) (.int limit) = some (.int (cur.fdiv limit)) := gDiv_i (by omega) (by omega)
      by_cases hz : cur.fdiv limit = 0
      · refine ⟨cur.fmod limit, i, 0, 0, true, ?_, hi, fmod_lo hl, fmod_hi hl⟩
        unfold F__law_draw runF St
        simp [L2.ixN, h0, outs, gSt, gSet, D.noOwn, D.noOwnL, e1, e2, hz]
      · refine ⟨cur.fmod limit, i, cur.fdiv limit, left - 1, true, ?_, hi, fmod_lo hl, fmod_hi hl⟩
        unfold F__law_draw runF St
        simp [L2.ixN, h0, outs, gSt, gSet, D.noOwn, D.noOwnL, e1, e2, hz]
end G09

namespace G09
open PySem PySem.Spec PyProof.Rows L2 Vl
/-- a state of the draws -/
def IsSt (d : D) : Prop := ∃ cells i cur left big, d = St cells i cur left big ∧ 0 ≤ i
theorem draw (s : D) (limit : Int) (hs : IsSt s) (hl : 0 < limit) (hl2 : limit < 1000000) : ∃ r s', F__law_draw [s, .int limit] = some (.int r, [s']) ∧ IsSt s' ∧ 0 ≤ r ∧ r < limit := by
  obtain ⟨cells, i, cur, left, big, rfl, hi⟩ := hs
  obtain ⟨r, i', cur', left', big', e, h1, h2, h3⟩ := draw_ok cells i cur left limit big hl hl2 hi
  exact ⟨r, _, e, ⟨cells, i', cur', left', big', rfl, h1⟩, h2, h3⟩
theorem state_ok (ns : List Int) (h : ns.length ≤ 63) : ∃ s, F__law_state [.scr (ns.map .int)] = some (s, []) ∧ IsSt s := by
  refine ⟨St ns 0 0 0 false, ?_, ⟨ns, 0, 0, 0, false, rfl, Int.le_refl _⟩⟩
  unfold F__law_state runF St
  simp [outs, gListA, gList, D.frz, szOk]
end G09

namespace Vl
open PySem PySem.Spec PyProof.Rows L2
/-! ### comprehensions whose parts are plain -/
theorem compL_pure {i : Nat} {ft : M Bool} {fe : M D} {ρ0 : Env} {p : D → Bool} {h : D → D} : ∀ (items : List D) (ρ : Env) (acc : List D), ρ.set i none = ρ0.set i none →
    (∀ d ∈ items, ft (ρ0.set i (some d)) = some (p d, ρ0.set i (some d))) → (∀ d ∈ items, p d = true → fe (ρ0.set i (some d)) = some (h d, ρ0.set i (some d))) → acc.length + items.length ≤ 100000 →
    ∃ ρ', compL [i] (gNm i) ft fe items ρ acc = some (acc ++ (items.filter p).map h, ρ') ∧ ρ'.set i none = ρ0.set i none
  | [], ρ, acc, hρ, _, _, _ => ⟨ρ, by simp [compL], hρ⟩
  | d :: ds, ρ, acc, hρ, ht, he, hl => by
    have e0 : (wipeE ρ [i]).set i (some d) = ρ0.set i (some d) := by
      show (ρ.set i none).set i (some d) = _
      rw [hρ, List.set_set]
    have ht1 := ht d List.mem_cons_self
    have e1 : (ρ0.set i (some d)).set i none = ρ0.set i none := by rw [List.set_set]
    rw [List.length_cons] at hl
    cases hp : p d with
    | false =>
      obtain ⟨ρ', h1, h2⟩ := compL_pure ds (ρ0.set i (some d)) acc e1 (fun x hx => ht x (List.mem_cons_of_mem _ hx)) (fun x hx => he x (List.mem_cons_of_mem _ hx)) (by omega)
      refine ⟨ρ', ?_, h2⟩
      rw [List.filter_cons, hp, if_neg Bool.false_ne_true]
      show (some ((wipeE ρ [i]).set i (some d))).bind _ = _
      rw [e0, Option.bind_some, ht1, Option.bind_some, hp, if_neg Bool.false_ne_true]
      exact h1
    | true =>
      have he1 := he d List.mem_cons_self hp
      obtain ⟨ρ', h1, h2⟩ := compL_pure ds (ρ0.set i (some d)) (acc ++ [h d]) e1 (fun x hx => ht x (List.mem_cons_of_mem _ hx)) (fun x hx => he x (List.mem_cons_of_mem _ hx)) (by simp; omega)
      refine ⟨ρ', ?_, h2⟩
      rw [List.filter_cons, hp, if_pos rfl, List.map_cons]
      show (some ((wipeE ρ [i]).set i (some d))).bind _ = _
      rw [e0, Option.bind_some, ht1, Option.bind_some, hp, if_pos rfl, he1, Option.bind_some, if_pos (show szOk acc.length = true from decide_eq_true (by omega)), h1, List.append_assoc]
      rfl
theorem set_back (ρ : Env) (i : Nat) : ρ.set i ((ρ[i]?).getD none) = ρ := by
  refine List.ext_getElem? fun j => ?_
  by_cases e : j = i
  · subst e
    by_cases h : j < ρ.length
    · rw [List.getElem?_set_self h, List.getElem?_eq_getElem h]
      rfl
    · rw [List.getElem?_eq_none (by rw [List.length_set]; omega), List.getElem?_eq_none (by omega)]
  · rw [List.getElem?_set_ne (Ne.symm e)]
theorem fComp_pure {i : Nat} {fi : M (List D)} {ft : M Bool} {fe : M D} {ρ0 ρ1 : Env} {items : List D} (p : D → Bool) (h : D → D) (hi : fi ρ0 = some (items, ρ1)) (ho : ownOk ρ1 [i] = true) (ht : ∀ d ∈ items, ft (ρ1.set i (some d)) = some (p d, ρ1.set i (some d)))
    (he : ∀ d ∈ items, p d = true → fe (ρ1.set i (some d)) = some (h d, ρ1.set i (some d))) (hl : items.length ≤ 100000) : fComp [i] fi (gNm i) ft fe ρ0 = some (.lst true ((items.filter p).map h), ρ1) := by
  obtain ⟨ρ', h1, h2⟩ := compL_pure (p := p) (h := h) items ρ1 [] rfl ht he (by simpa using hl)
  unfold fComp
  rw [hi, Option.bind_some, if_pos ho, h1, Option.bind_some, List.nil_append]
  show some (D.lst true _, ρ'.set i ((ρ1[i]?).getD none)) = _
  have e : ρ'.set i ((ρ1[i]?).getD none) = ρ1 := by
    have : (ρ'.set i none).set i ((ρ1[i]?).getD none) = (ρ1.set i none).set i ((ρ1[i]?).getD none) := by rw [h2]
    rw [List.set_set, List.set_set, set_back] at this
    exact this
  rw [e]
/-- .. without an if -/
theorem fComp_all {i : Nat} {fi : M (List D)} {fe : M D} {ρ0 ρ1 : Env} {items : List D} (h : D → D) (hi : fi ρ0 = some (items, ρ1)) (ho : ownOk ρ1 [i] = true)
    (he : ∀ d ∈ items, fe (ρ1.set i (some d)) = some (h d, ρ1.set i (some d))) (hl : items.length ≤ 100000) : fComp [i] fi (gNm i) fYes fe ρ0 = some (.lst true (items.map h), ρ1) := by
  have := fComp_pure (ft := fYes) (fun _ => true) h hi ho (fun _ _ => rfl) (fun d hd _ => he d hd) hl
  rwa [List.filter_eq_self.mpr fun _ _ => rfl] at this
end Vl
namespace Vl
open PySem PySem.Spec PyProof.Rows L2
theorem atI_i {ns : List Int} {k : Nat} {n : Int} (h : ns[k]? = some n) : L2.atI (ns.map D.int) (k : Int) = some (.int n) := by
  have hk : k < ns.length := (List.getElem?_eq_some_iff.mp h).1
  unfold L2.atI L2.ixN
  rw [List.length_map, if_pos (by omega), if_pos (by omega)]
  show (ns.map D.int)[((k : Int)).toNat]? = _
  rw [Int.toNat_natCast, List.getElem?_map, h]
  rfl
theorem atI_k {ds : List D} {k : Nat} {d : D} (h : ds[k]? = some d) : L2.atI ds (k : Int) = some d := by
  have hk : k < ds.length := (List.getElem?_eq_some_iff.mp h).1
  unfold L2.atI L2.ixN
  rw [if_pos (by omega), if_pos (by omega)]
  show ds[((k : Int)).toNat]? = _
  rw [Int.toNat_natCast, h]
@[simp] theorem two0 (a b : D) : L2.atI [a, b] 0 = some a := rfl
@[simp] theorem two1 (a b : D) : L2.atI [a, b] 1 = some b := rfl
/-! ### steps -/
section
variable {a b body : MS} {ρ ρ' ρ1 ρ2 : Vl.Env} {t : M Bool} {n : Nat} {fi : M (List D)} {g : D → Vl.Env → Option Vl.Env} {d : D} {ds : List D}
theorem seq_nx (h : a ρ = some (.nx ρ')) : sSeq a b ρ = b ρ' := by
  show (a ρ).bind _ = _
  rw [h]
  rfl
theorem seq_rt (h : a ρ = some (.rt d ρ')) : sSeq a b ρ = some (.rt d ρ') := by
  show (a ρ).bind _ = _
  rw [h]
  rfl
theorem seq_bk (h : a ρ = some (.bk ρ')) : sSeq a b ρ = some (.bk ρ') := by
  show (a ρ).bind _ = _
  rw [h]
  rfl
theorem while_t (h1 : t ρ = some (true, ρ1)) (h2 : b ρ1 = some (.nx ρ2)) : whileN (n + 1) t b ρ = whileN n t b ρ2 := by
  rw [whileN, h1, Option.bind_some, if_pos rfl, h2]
  rfl
theorem while_f (h1 : t ρ = some (false, ρ1)) : whileN (n + 1) t b ρ = some (.nx ρ1) := by
  rw [whileN, h1, Option.bind_some, if_neg Bool.false_ne_true]
theorem for_it {items : List D} (h : fi ρ = some (items, ρ1)) : sFor fi g body ρ = forL g body items ρ1 := by
  show (fi ρ).bind _ = _
  rw [h]
  rfl
theorem forL_nx (h1 : g d ρ = some ρ1) (h2 : body ρ1 = some (.nx ρ2)) : forL g body (d :: ds) ρ = forL g body ds ρ2 := by
  rw [forL, h1, Option.bind_some, h2]
  rfl
theorem forL_bk (h1 : g d ρ = some ρ1) (h2 : body ρ1 = some (.bk ρ2)) : forL g body (d :: ds) ρ = some (.nx ρ2) := by
  rw [forL, h1, Option.bind_some, h2]
  rfl
theorem if_t {c : M Bool} (h : c ρ = some (true, ρ1)) : sIf c a b ρ = a ρ1 := by
  show (c ρ).bind _ = _
  rw [h]
  rfl
theorem if_f {c : M Bool} (h : c ρ = some (false, ρ1)) : sIf c a b ρ = b ρ1 := by
  show (c ρ).bind _ = _
  rw [h]
  rfl
theorem set_nx {i : Nat} {f : M D} (h : f ρ = some (d, ρ1)) : sSet i f ρ = some (.nx (ρ1.set i (some d))) := by
  show (f ρ).bind _ = _
  rw [h]
  rfl
theorem call_ok {F : FD} {fr : M (List D)} {r : D} (h : fr ρ = some (ds, ρ1)) (hf : D.frzL ds = ds) (hn : D.noOwnL ds = true) (h2 : F ds = some (r, [])) : fCall F fr ρ = some (r, ρ1) := by
  show (fr ρ).bind _ = _
  rw [h, Option.bind_some, hf, h2, Option.bind_some, if_pos (by rw [hn, Bool.or_true])]
theorem run_rt {np n : Nat} {b : MS} {ds : List D} {d : D} {ρ : Vl.Env} (hl : ds.length = np) (h : b (ds.map some ++ List.replicate (n - np) none) = some (.rt d ρ)) : runF np 0 n b ds = some (d, []) := by
  unfold runF
  rw [if_pos hl, h]
  rfl
theorem cons_ok {O1 T2 : List Nat} {fa : M D} {fr : M (List D)} (h1 : fa ρ = some (d, ρ1)) (h2 : fr ρ1 = some (ds, ρ2)) (h3 : safe O1 T2 d = true) : fCons O1 T2 fa fr ρ = some (d :: ds, ρ2) := by
  show (fa ρ).bind _ = _
  rw [h1, Option.bind_some, h2, Option.bind_some, if_pos h3]
theorem op_ok {O1 T2 : List Nat} {g : D → D → Option D} {fa fb : M D} {e r : D} (h1 : fa ρ = some (d, ρ1)) (h2 : fb ρ1 = some (e, ρ2)) (h3 : safe O1 T2 d = true) (h4 : g d e = some r) : fOp O1 T2 g fa fb ρ = some (r, ρ2) := by
  show (fa ρ).bind _ = _
  rw [h1, Option.bind_some, h2, Option.bind_some, if_pos h3, h4]
  rfl
theorem b_ok {f : M D} {k : Bool} (h : f ρ = some (.bl k, ρ1)) : fB f ρ = some (k, ρ1) := by
  show (f ρ).bind _ = _
  rw [h]
  rfl
theorem cl_ok {g : List D → Option D} {fr : M (List D)} (h : fr ρ = some (ds, ρ1)) (h2 : g ds = some d) : fCl g fr ρ = some (d, ρ1) := by
  show (fr ρ).bind _ = _
  rw [h, Option.bind_some, h2]
  rfl
theorem chk_ok {f : M D} (h : f ρ = some (d, ρ1)) (hn : d.noOwn = true) : chk f ρ = some (d, ρ1) := by
  show (f ρ).bind _ = _
  rw [h, Option.bind_some, if_pos hn]
theorem tup_ok {fr : M (List D)} (h : fr ρ = some (ds, ρ1)) (hs : szOk ds.length = true) : fTup fr ρ = some (.tup ds, ρ1) := by
  show (fr ρ).bind _ = _
  rw [h, Option.bind_some, if_pos hs]
theorem ret_ok {f : M D} (h : f ρ = some (d, ρ1)) : sRet f ρ = some (.rt d ρ1) := by
  show (f ρ).bind _ = _
  rw [h]
  rfl
theorem seq_it {f : M D} (h : f ρ = some (d, ρ1)) (h2 : itemsOf d = some ds) : iSeq f ρ = some (ds, ρ1) := by
  show (f ρ).bind _ = _
  rw [h, Option.bind_some, h2]
  rfl
theorem app_ok {i : Nat} {l : List D} {fr : M (List D)} {e : D} (h1 : Env.at ρ i = some (.lst true l)) (h2 : fr ρ = some ([e], ρ1)) (h3 : Env.at ρ1 i = some (.lst true l)) (h4 : szOk l.length = true) : sDrop (fMut i "list" gAppend fr) ρ = some (.nx (ρ1.set i (some (.lst true (l ++ [e]))))) := by
  show (fMut i "list" gAppend fr ρ).bind _ = _
  show (((Env.at ρ i).bind fun o => if tyIs "list" o = true then (fr ρ).bind fun p => (Env.at p.2 i).bind fun o' => (gAppend o' p.1).bind fun q => some (q.1, p.2.set i (some q.2)) else none).bind _) = _
  rw [h1, Option.bind_some, if_pos (show tyIs "list" (.lst true l) = true from rfl), h2, Option.bind_some]
  show (((Env.at ρ1 i).bind _).bind _) = _
  rw [h3, Option.bind_some]
  show (((if szOk l.length = true then some (D.non, D.lst true (l ++ [e])) else none : Option (D × D)).bind _).bind _) = _
  rw [if_pos h4]
  rfl
theorem aug_ok {i : Nat} {T : List Nat} {g : D → D → Option D} {f : M D} {o e : D} (h1 : Env.at ρ i = some o) (h2 : f ρ = some (d, ρ1)) (h3 : safe [i] T o = true) (h4 : g o d = some e) : sAug i T g f ρ = some (.nx (ρ1.set i (some e))) := by
  show (Env.at ρ i).bind _ = _
  rw [h1, Option.bind_some, h2, Option.bind_some, if_pos h3, h4]
  rfl
theorem frzL2 {x y : D} (h1 : x.frz = x) (h2 : y.frz = y) : D.frzL [x, y] = [x, y] := by
  show [x.frz, y.frz] = _
  rw [h1, h2]
theorem frzL1 {x : D} (h1 : x.frz = x) : D.frzL [x] = [x] := by
  show [x.frz] = _
  rw [h1]
theorem frzL3 {x y z : D} (h1 : x.frz = x) (h2 : y.frz = y) (h3 : z.frz = z) : D.frzL [x, y, z] = [x, y, z] := by
  show [x.frz, y.frz, z.frz] = _
  rw [h1, h2, h3]
theorem noL2 {x y : D} (h1 : x.noOwn = true) (h2 : y.noOwn = true) : D.noOwnL [x, y] = true := by
  show (x.noOwn && (y.noOwn && true)) = true
  rw [h1, h2]
  rfl
theorem noL1 {x : D} (h1 : x.noOwn = true) : D.noOwnL [x] = true := by
  show (x.noOwn && true) = true
  rw [h1]
  rfl
theorem noL3 {x y z : D} (h1 : x.noOwn = true) (h2 : y.noOwn = true) (h3 : z.noOwn = true) : D.noOwnL [x, y, z] = true := by
  show (x.noOwn && (y.noOwn && (z.noOwn && true))) = true
  rw [h1, h2, h3]
  rfl
end
end Vl

namespace Vl
open PySem PySem.Spec PyProof.Rows L2
section
variable {a b body : MS} {ρ ρ' ρ1 ρ2 : Vl.Env} {t : M Bool} {n : Nat} {fi : M (List D)} {g : D → Vl.Env → Option Vl.Env} {d : D} {ds : List D}
theorem set_to {i : Nat} {f : M D} (h : f ρ = some (d, ρ1)) (h2 : ρ1.set i (some d) = ρ2) : sSet i f ρ = some (.nx ρ2) := by
  rw [set_nx h, h2]
theorem app_to {i : Nat} {l : List D} {fr : M (List D)} {e : D} (h1 : Env.at ρ i = some (.lst true l)) (h2 : fr ρ = some ([e], ρ1)) (h3 : Env.at ρ1 i = some (.lst true l)) (h4 : szOk l.length = true) (h5 : ρ1.set i (some (.lst true (l ++ [e]))) = ρ2) : sDrop (fMut i "list" gAppend fr) ρ = some (.nx ρ2) := by
  rw [app_ok h1 h2 h3 h4, h5]
theorem aug_to {i : Nat} {T : List Nat} {g : D → D → Option D} {f : M D} {o e : D} (h1 : Env.at ρ i = some o) (h2 : f ρ = some (d, ρ1)) (h3 : safe [i] T o = true) (h4 : g o d = some e) (h5 : ρ1.set i (some e) = ρ2) : sAug i T g f ρ = some (.nx ρ2) := by
  rw [aug_ok h1 h2 h3 h4, h5]
end
end Vl

namespace Vl
open PySem PySem.Spec PyProof.Rows L2
section
variable {a b body : MS} {ρ ρ' ρ1 ρ2 : Vl.Env} {t : M Bool} {n : Nat} {fi : M (List D)} {g g1 g2 : D → Vl.Env → Option Vl.Env} {d d1 d2 : D} {ds : List D}
theorem tupRg_ok {fr : M (Int × Int)} {i j : Int} (h : fr ρ = some ((i, j), ρ1)) (h2 : okRg i j = true) : fTupRg fr ρ = some (.tup (rgItems i (j - i).toNat), ρ1) := by
  show (fr ρ).bind _ = _
  rw [h, Option.bind_some, if_pos h2]
theorem lstRg_ok {fr : M (Int × Int)} {i j : Int} (h : fr ρ = some ((i, j), ρ1)) (h2 : okRg i j = true) : fLstRg fr ρ = some (.lst true (rgItems i (j - i).toNat), ρ1) := by
  show (fr ρ).bind _ = _
  rw [h, Option.bind_some, if_pos h2]
theorem rRg2_ok {O1 T2 : List Nat} {fa fb : M D} {i j : Int} (h : fa ρ = some (.int i, ρ1)) (h2 : fb ρ1 = some (.int j, ρ2)) : rRg2 O1 T2 fa fb ρ = some ((i, j), ρ2) := by
  show (fa ρ).bind _ = _
  rw [h, Option.bind_some, h2]
  rfl
theorem tupRg3_ok {fr : M (List D)} {i : Int} {k : Nat} (h : fr ρ = some (ds, ρ1)) (h2 : downOf ds = some (i, k)) (h3 : k ≤ 100000) : fTupRg3 fr ρ = some (.tup (rgDown i k), ρ1) := by
  show (fr ρ).bind _ = _
  rw [h, Option.bind_some, h2, Option.bind_some, if_pos (decide_eq_true h3)]
theorem iRg1_ok {fr : M (List D)} {j : Int} (h : fr ρ = some ([.int j], ρ1)) (h2 : okR j = true) : iRg1 fr ρ = some (rgItems 0 j.toNat, ρ1) := by
  show (fr ρ).bind _ = _
  rw [h, Option.bind_some]
  show (if okR j = true then _ else none) = _
  rw [if_pos h2]
theorem iRg2_ok {fr : M (List D)} {i j : Int} (h : fr ρ = some ([.int i, .int j], ρ1)) (h1 : okR i = true) (h2 : okR j = true) : iRg2 fr ρ = some (rgItems i (j - i).toNat, ρ1) := by
  show (fr ρ).bind _ = _
  rw [h, Option.bind_some]
  show (if (okR i && okR j) = true then _ else none) = _
  rw [h1, h2, if_pos (by rfl)]
theorem asg_ok {f : M D} (h : f ρ = some (d, ρ1)) (hn : d.noOwn = true) (h2 : g d ρ1 = some ρ2) : sAsg g f ρ = some (.nx ρ2) := by
  show (f ρ).bind _ = _
  rw [h, Option.bind_some, if_pos hn, h2]
  rfl
theorem tp2_ok (h1 : g1 d1 ρ = some ρ1) (h2 : g2 d2 ρ1 = some ρ2) : gTp 2 (gsCons g1 (gsCons g2 gsNil)) (.tup [d1, d2]) ρ = some ρ2 := by
  show (if 2 = 2 then (g1 d1 ρ).bind _ else none) = _
  rw [if_pos rfl, h1, Option.bind_some]
  show (g2 d2 ρ1).bind _ = _
  rw [h2]
  rfl
theorem st_ok {i : Nat} {f : M D} {o0 o k v o' : D} (h0 : Env.at ρ i = some o0) (h1 : f ρ = some (k, ρ1)) (h2 : Env.at ρ1 i = some o) (h3 : gSet o k v = some o') (h4 : ρ1.set i (some o') = ρ2) : gSt i f v ρ = some ρ2 := by
  show (Env.at ρ i).bind _ = _
  rw [h0, Option.bind_some, h1, Option.bind_some, h2, Option.bind_some, h3, Option.bind_some, h4]
theorem ixl_ok {O1 T2 : List Nat} {fa fb : M D} {o : Bool} {l : List D} {j : Int} {r : D} (h1 : fa ρ = some (.lst o l, ρ1)) (h2 : fb ρ1 = some (.int j, ρ2)) (h3 : safe O1 T2 (.lst o l) = true) (h4 : L2.atI l j = some r) : fOp O1 T2 gIxA fa fb ρ = some (r, ρ2) := op_ok h1 h2 h3 h4
theorem ixt_ok {O1 T2 : List Nat} {fa fb : M D} {l : List D} {j : Int} {r : D} (h1 : fa ρ = some (.tup l, ρ1)) (h2 : fb ρ1 = some (.int j, ρ2)) (h3 : safe O1 T2 (.tup l) = true) (h4 : L2.atI l j = some r) : fOp O1 T2 gIxA fa fb ρ = some (r, ρ2) := op_ok h1 h2 h3 h4
theorem lst_ok {fr : M (List D)} (h : fr ρ = some (ds, ρ1)) (hs : szOk ds.length = true) : fLst fr ρ = some (.lst true ds, ρ1) := by
  show (fr ρ).bind _ = _
  rw [h, Option.bind_some, if_pos hs]
theorem tr_ok {f : M D} {k : Bool} (h : f ρ = some (d, ρ1)) (h2 : truth d = some k) : fTr f ρ = some (k, ρ1) := by
  show (f ρ).bind _ = _
  rw [h, Option.bind_some, h2]
  rfl
theorem run_at {np n : Nat} {b : MS} {ds : List D} {d : D} {ρ ρ0 : Vl.Env} (hl : ds.length = np) (e : ds.map some ++ List.replicate (n - np) none = ρ0) (h : b ρ0 = some (.rt d ρ)) : runF np 0 n b ds = some (d, []) := by
  subst e
  exact run_rt hl h
theorem nx_of (h : a ρ = some (.nx ρ1)) (e : ρ1 = ρ2) : a ρ = some (.nx ρ2) := by rw [h, e]
end
end Vl

namespace Pm
theorem perm_nd {α : Type} [DecidableEq α] : ∀ {l m : List α}, l.Nodup → m.Nodup → (∀ x, x ∈ l ↔ x ∈ m) → l.Perm m
  | [], m, _, _, h => by
    cases m with
    | nil => exact .nil
    | cons y r => exact absurd ((h y).mpr List.mem_cons_self) (by simp)
  | x :: r, m, hl, hm, h => by
    have hx : x ∈ m := (h x).mp List.mem_cons_self
    obtain ⟨h1, h2⟩ := List.nodup_cons.mp hl
    refine (List.Perm.cons x (perm_nd h2 (hm.erase x) fun y => ?_)).trans (List.perm_cons_erase hx).symm
    rw [hm.mem_erase_iff]
    constructor
    · intro hy
      exact ⟨fun e => h1 (e ▸ hy), (h y).mp (List.mem_cons_of_mem _ hy)⟩
    · rintro ⟨hne, hy⟩
      exact (List.mem_cons.mp ((h y).mpr hy)).resolve_left hne
/-- as many, all within: the same -/
theorem perm_len {α : Type} [DecidableEq α] : ∀ {l m : List α}, l.Nodup → (∀ x ∈ l, x ∈ m) → l.length = m.length → l.Perm m
  | [], m, _, _, h => by
    have : m = [] := List.eq_nil_of_length_eq_zero h.symm
    rw [this]
  | x :: r, m, hl, hs, h => by
    have hx : x ∈ m := hs x List.mem_cons_self
    obtain ⟨h1, h2⟩ := List.nodup_cons.mp hl
    refine (List.Perm.cons x (perm_len h2 (fun y hy => ?_) ?_)).trans (List.perm_cons_erase hx).symm
    · exact (List.mem_erase_of_ne (fun (e : y = x) => h1 (e ▸ hy))).mpr (hs y (List.mem_cons_of_mem _ hy))
    · rw [List.length_erase_of_mem hx, ← h, List.length_cons]; omega
theorem len_le {α : Type} [DecidableEq α] : ∀ {l m : List α}, l.Nodup → (∀ x ∈ l, x ∈ m) → l.length ≤ m.length
  | [], m, _, _ => Nat.zero_le _
  | x :: r, m, hl, hs => by
    have hx : x ∈ m := hs x List.mem_cons_self
    obtain ⟨h1, h2⟩ := List.nodup_cons.mp hl
    have := len_le (m := m.erase x) h2 (fun y hy => (List.mem_erase_of_ne (fun (e : y = x) => h1 (e ▸ hy))).mpr (hs y (List.mem_cons_of_mem _ hy)))
    rw [List.length_erase_of_mem hx] at this
    have : 0 < m.length := List.length_pos_of_mem hx
    rw [List.length_cons]
    omega
def ix (l : List Nat) (i : Nat) : Nat := l.getD i 0
theorem ix_get {l : List Nat} {i : Nat} (h : i < l.length) : ix l i = l[i] := by
  unfold ix
  rw [List.getD_eq_getElem?_getD, List.getElem?_eq_getElem h]
  rfl
theorem ix_some {l : List Nat} {i : Nat} (h : i < l.length) : l[i]? = some (ix l i) := by
  rw [List.getElem?_eq_getElem h, ix_get h]
theorem ix_of {l : List Nat} {i v : Nat} (h : l[i]? = some v) : ix l i = v := by
  unfold ix
  rw [List.getD_eq_getElem?_getD, h]
  rfl
theorem ext_ix {l m : List Nat} (h : l.length = m.length) (h2 : ∀ i, i < l.length → ix l i = ix m i) : l = m := by
  refine List.ext_getElem h fun i h1 h3 => ?_
  have := h2 i h1
  rwa [ix_get h1, ix_get h3] at this
theorem ix_map {f : Nat → Nat} {l : List Nat} {i : Nat} (h : i < l.length) : ix (l.map f) i = f (ix l i) := by
  rw [ix_get (by rw [List.length_map]; exact h), List.getElem_map, ix_get h]
theorem ix_range' {a n i : Nat} (h : i < n) : ix (List.range' a n) i = a + i := by
  rw [ix_get (by rw [List.length_range']; exact h), List.getElem_range']
  omega
theorem ix_range {n i : Nat} (h : i < n) : ix (List.range n) i = i := by
  rw [ix_get (by rw [List.length_range]; exact h), List.getElem_range]
theorem ix_set {l : List Nat} {k v i : Nat} (h : k < l.length) : ix (l.set k v) i = if i = k then v else ix l i := by
  unfold ix
  rw [List.getD_eq_getElem?_getD, List.getD_eq_getElem?_getD, List.getElem?_set]
  by_cases e : k = i
  · subst e; simp [h]
  · rw [if_neg e, if_neg (fun z => e z.symm)]
theorem mem_ix {l : List Nat} {x : Nat} (h : x ∈ l) : ∃ i, i < l.length ∧ ix l i = x := by
  obtain ⟨i, h1, h2⟩ := List.getElem_of_mem h
  exact ⟨i, h1, by rw [ix_get h1, h2]⟩
theorem ix_mem {l : List Nat} {i : Nat} (h : i < l.length) : ix l i ∈ l := by
  rw [ix_get h]; exact List.getElem_mem h

/-- an order of the numbers from 1 to n -/
structure IsP (n : Nat) (l : List Nat) : Prop where
  len : l.length = n
  inj : ∀ i j, i < n → j < n → ix l i = ix l j → i = j
  lo : ∀ i, i < n → 1 ≤ ix l i
  hi : ∀ i, i < n → ix l i ≤ n
theorem IsP.nd {n : Nat} {l : List Nat} (h : IsP n l) : l.Nodup := by
  rw [List.nodup_iff_pairwise_ne, List.pairwise_iff_getElem]
  intro i j hi hj hij e
  have := h.inj i j (by rw [← h.len]; exact hi) (by rw [← h.len]; exact hj) (by rw [ix_get hi, ix_get hj, e])
  omega
theorem IsP.perm {n : Nat} {l : List Nat} (h : IsP n l) : l.Perm (List.range' 1 n) := by
  refine perm_len h.nd (fun x hx => ?_) (by rw [h.len, List.length_range'])
  obtain ⟨i, h1, rfl⟩ := mem_ix hx
  rw [h.len] at h1
  have a := h.lo i h1
  have b := h.hi i h1
  rw [List.mem_range'_1]
  omega
theorem IsP.of_perm {n : Nat} {l : List Nat} (h : l.Perm (List.range' 1 n)) : IsP n l := by
  have hl : l.length = n := by rw [h.length_eq, List.length_range']
  have nd : l.Nodup := h.nodup_iff.mpr List.nodup_range'
  have mm : ∀ i, i < n → 1 ≤ ix l i ∧ ix l i ≤ n := fun i hi => by
    have := h.mem_iff.mp (ix_mem (l := l) (i := i) (by omega))
    rw [List.mem_range'_1] at this
    omega
  refine ⟨hl, fun i j hi hj e => ?_, fun i hi => (mm i hi).1, fun i hi => (mm i hi).2⟩
  rw [ix_get (by omega), ix_get (by omega)] at e
  have pw := List.pairwise_iff_getElem.mp (List.nodup_iff_pairwise_ne.mp nd)
  rcases Nat.lt_trichotomy i j with c | c | c
  · exact absurd e (pw i j (by omega) (by omega) c)
  · exact c
  · exact absurd e.symm (pw j i (by omega) (by omega) c)
theorem IsP.surj {n : Nat} {l : List Nat} (h : IsP n l) {v : Nat} (h1 : 1 ≤ v) (h2 : v ≤ n) : ∃ i, i < n ∧ ix l i = v := by
  have : v ∈ l := h.perm.mem_iff.mpr (by rw [List.mem_range'_1]; omega)
  obtain ⟨i, a, b⟩ := mem_ix this
  exact ⟨i, by rw [← h.len]; exact a, b⟩
theorem isP_id (n : Nat) : IsP n (List.range' 1 n) := .of_perm (List.Perm.refl _)

/-! ### two neighbours exchanged -/
def swp (l : List Nat) (k : Nat) : List Nat := (l.set k (ix l (k + 1))).set (k + 1) (ix l k)
def tr (k i : Nat) : Nat := if i = k then k + 1 else if i = k + 1 then k else i
theorem tr_tr (k i : Nat) : tr k (tr k i) = i := by
  unfold tr
  split <;> split <;> (try split) <;> omega
theorem tr_lt {k i n : Nat} (h : k + 1 < n) (hi : i < n) : tr k i < n := by
  unfold tr
  split <;> (try split) <;> omega
theorem swp_len (l : List Nat) (k : Nat) : (swp l k).length = l.length := by
  unfold swp; rw [List.length_set, List.length_set]
theorem ix_swp {l : List Nat} {k i : Nat} (h : k + 1 < l.length) : ix (swp l k) i = ix l (tr k i) := by
  unfold swp tr
  rw [ix_set (by rw [List.length_set]; exact h), ix_set (by omega)]
  by_cases e1 : i = k + 1
  · subst e1; rw [if_pos rfl, if_neg (by omega), if_pos rfl]
  · rw [if_neg e1]
    by_cases e2 : i = k
    · rw [if_pos e2, if_pos e2]
    · rw [if_neg e2, if_neg e2, if_neg e1]
theorem IsP.swp {n k : Nat} {l : List Nat} (h : IsP n l) (hk : k + 1 < n) : IsP n (swp l k) := by
  have hk' : k + 1 < l.length := by rw [h.len]; exact hk
  refine ⟨by rw [swp_len, h.len], fun i j hi hj e => ?_, fun i hi => ?_, fun i hi => ?_⟩
  · rw [ix_swp hk', ix_swp hk'] at e
    have := h.inj _ _ (tr_lt hk hi) (tr_lt hk hj) e
    rw [← tr_tr k i, this, tr_tr]
  · rw [ix_swp hk']; exact h.lo _ (tr_lt hk hi)
  · rw [ix_swp hk']; exact h.hi _ (tr_lt hk hi)

/-! ### the pairs turned round -/
def prs (l : List Nat) : List (Nat × Nat) := (List.range l.length).flatMap fun k => ((List.range k).filter fun j => decide (ix l k < ix l j)).map fun j => (j, k)
theorem mem_prs {l : List Nat} {j k : Nat} : (j, k) ∈ prs l ↔ k < l.length ∧ j < k ∧ ix l k < ix l j := by
  unfold prs
  rw [List.mem_flatMap]
  constructor
  · rintro ⟨k', h1, h2⟩
    obtain ⟨j', h3, e⟩ := List.mem_map.mp h2
    cases e
    obtain ⟨h4, h5⟩ := List.mem_filter.mp h3
    exact ⟨List.mem_range.mp h1, List.mem_range.mp h4, of_decide_eq_true h5⟩
  · rintro ⟨h1, h2, h3⟩
    exact ⟨k, List.mem_range.mpr h1, List.mem_map.mpr ⟨j, List.mem_filter.mpr ⟨List.mem_range.mpr h2, decide_eq_true h3⟩, rfl⟩⟩
theorem nd_flat {n : Nat} {f : Nat → List Nat} (h : ∀ k, (f k).Nodup) : ((List.range n).flatMap fun k => (f k).map fun j => (j, k)).Nodup := by
  rw [List.nodup_iff_pairwise_ne, List.pairwise_flatMap]
  refine ⟨fun k _ => ?_, ?_⟩
  · rw [List.pairwise_map]
    exact (List.nodup_iff_pairwise_ne.mp (h k)).imp fun ne e => ne (Prod.mk.inj e).1
  · refine (List.nodup_iff_pairwise_ne.mp List.nodup_range).imp fun {a b} ne x hx y hy e => ?_
    obtain ⟨u, _, rfl⟩ := List.mem_map.mp hx
    obtain ⟨v, _, rfl⟩ := List.mem_map.mp hy
    exact ne (Prod.mk.inj e).2
theorem nd_prs (l : List Nat) : (prs l).Nodup := nd_flat fun k => List.nodup_range.filter _
theorem nd_map {α β : Type} {f : α → β} {l : List α} (h : l.Nodup) (hf : ∀ x y, f x = f y → x = y) : (l.map f).Nodup := by
  rw [List.nodup_iff_pairwise_ne, List.pairwise_map]
  exact (List.nodup_iff_pairwise_ne.mp h).imp fun ne e => ne (hf _ _ e)
theorem npr_swp {l : List Nat} {k : Nat} (h : k + 1 < l.length) (hd : ix l (k + 1) < ix l k) : (prs (swp l k)).length + 1 = (prs l).length := by
  have p : ((k, k + 1) :: (prs (swp l k)).map fun p => (tr k p.1, tr k p.2)).Perm (prs l) := by
    refine perm_nd ?_ (nd_prs l) fun x => ?_
    · refine List.nodup_cons.mpr ⟨fun hm => ?_, nd_map (nd_prs _) fun x y e => ?_⟩
      · obtain ⟨⟨a, b⟩, h1, h2⟩ := List.mem_map.mp hm
        obtain ⟨_, h4, h5⟩ := mem_prs.mp h1
        have e1 : tr k a = k := (Prod.mk.inj h2).1
        have e2 : tr k b = k + 1 := (Prod.mk.inj h2).2
        have : a = k + 1 := by rw [← tr_tr k a, e1]; simp [tr]
        have : b = k := by rw [← tr_tr k b, e2]; simp [tr]
        omega
      · obtain ⟨a, b⟩ := x
        obtain ⟨c, d⟩ := y
        have e1 : tr k a = tr k c := (Prod.mk.inj e).1
        have e2 : tr k b = tr k d := (Prod.mk.inj e).2
        rw [← tr_tr k a, ← tr_tr k b, e1, e2, tr_tr, tr_tr]
    · obtain ⟨a, b⟩ := x
      rw [List.mem_cons, mem_prs]
      constructor
      · rintro (e | hm)
        · cases e; exact ⟨h, by omega, hd⟩
        · obtain ⟨⟨c, d⟩, h1, h2⟩ := List.mem_map.mp hm
          obtain ⟨h3, h4, h5⟩ := mem_prs.mp h1
          cases h2
          rw [swp_len] at h3
          rw [ix_swp h, ix_swp h] at h5
          refine ⟨tr_lt h h3, ?_, h5⟩
          by_cases e : c = k ∧ d = k + 1
          · obtain ⟨rfl, rfl⟩ := e
            simp [tr] at h5
            omega
          · unfold tr
            split <;> split <;> (try split) <;> (try split) <;> omega
      · rintro ⟨h3, h4, h5⟩
        by_cases e : a = k ∧ b = k + 1
        · obtain ⟨rfl, rfl⟩ := e; exact .inl rfl
        · refine .inr (List.mem_map.mpr ⟨(tr k a, tr k b), mem_prs.mpr ⟨by rw [swp_len]; exact tr_lt h h3, ?_, by rw [ix_swp h, ix_swp h, tr_tr, tr_tr]; exact h5⟩, by rw [tr_tr, tr_tr]⟩)
          unfold tr
          split <;> split <;> (try split) <;> (try split) <;> omega
  have := p.length_eq
  simpa using this

/-! ### the places where neighbours are turned round -/
def dsc (l : List Nat) : List Nat := (List.range (l.length - 1)).filter fun k => decide (ix l (k + 1) < ix l k)
theorem mem_dsc {l : List Nat} {k : Nat} : k ∈ dsc l ↔ k + 1 < l.length ∧ ix l (k + 1) < ix l k := by
  unfold dsc
  rw [List.mem_filter, List.mem_range, decide_eq_true_iff]
  constructor
  · rintro ⟨a, b⟩; exact ⟨by omega, b⟩
  · rintro ⟨a, b⟩; exact ⟨by omega, b⟩
theorem asc_of {l : List Nat} (h : dsc l = []) : ∀ d i, i + d < l.length → ix l i ≤ ix l (i + d)
  | 0, i, _ => Nat.le_refl _
  | d + 1, i, hi => by
    have h1 := asc_of h d i (by omega)
    have h2 : ¬ ix l (i + d + 1) < ix l (i + d) := fun z => by
      have : i + d ∈ dsc l := mem_dsc.mpr ⟨by omega, z⟩
      rw [h] at this
      cases this
    show ix l i ≤ ix l (i + d + 1)
    omega
theorem prs_nil {l : List Nat} (h : dsc l = []) : prs l = [] := by
  cases e : prs l with
  | nil => rfl
  | cons x r =>
    obtain ⟨j, k⟩ := x
    have : (j, k) ∈ prs l := by rw [e]; exact List.mem_cons_self
    obtain ⟨h1, h2, h3⟩ := mem_prs.mp this
    have := asc_of h (k - j) j (by omega)
    rw [show j + (k - j) = k by omega] at this
    omega
theorem dsc_nil {l : List Nat} (h : prs l = []) : dsc l = [] := by
  cases e : dsc l with
  | nil => rfl
  | cons k r =>
    have hm : k ∈ dsc l := by rw [e]; exact List.mem_cons_self
    obtain ⟨h1, h2⟩ := mem_dsc.mp hm
    have : (k, k + 1) ∈ prs l := mem_prs.mpr ⟨h1, by omega, h2⟩
    rw [h] at this
    cases this
/-- in order: the straight one -/
theorem IsP.straight {n : Nat} {l : List Nat} (h : IsP n l) (hd : dsc l = []) : l = List.range' 1 n := by
  have up : ∀ i, i + 1 < n → ix l i < ix l (i + 1) := fun i hi => by
    have h1 := asc_of hd 1 i (by rw [h.len]; exact hi)
    have h2 : ix l i ≠ ix l (i + 1) := fun e => by have := h.inj i (i + 1) (by omega) hi e; omega
    omega
  have lo : ∀ i, i < n → i + 1 ≤ ix l i := fun i => by
    induction i with
    | zero => intro hi; exact h.lo 0 hi
    | succ i ih => intro hi; have := ih (by omega); have := up i hi; omega
  have hi : ∀ d i, i + d + 1 = n → ix l i + d ≤ n := fun d => by
    induction d with
    | zero => intro i e; exact h.hi i (by omega)
    | succ d ih => intro i e; have := ih (i + 1) (by omega); have := up i (by omega); omega
  refine ext_ix (by rw [h.len, List.length_range']) fun i hi' => ?_
  rw [h.len] at hi'
  rw [ix_range' hi']
  have a := lo i hi'
  have b := hi (n - 1 - i) i (by omega)
  omega

/-! ### bubbling -/
def bub : Nat → List Nat → List Nat
  | 0, _ => []
  | m + 1, l => match dsc l with
    | [] => []
    | k :: _ => (k + 1) :: bub m (swp l k)
def endl : Nat → List Nat → List Nat
  | 0, l => l
  | m + 1, l => match dsc l with
    | [] => l
    | k :: _ => endl m (swp l k)
theorem bub_len : ∀ (m : Nat) (l : List Nat), (prs l).length = m → (bub m l).length = m
  | 0, _, _ => rfl
  | m + 1, l, h => by
    unfold bub
    cases e : dsc l with
    | nil => rw [prs_nil e] at h; cases h
    | cons k r =>
      obtain ⟨h1, h2⟩ := mem_dsc.mp (show k ∈ dsc l by rw [e]; exact List.mem_cons_self)
      have := npr_swp h1 h2
      simp only [List.length_cons]
      rw [bub_len m (swp l k) (by omega)]
theorem endl_ok {n : Nat} : ∀ (m : Nat) (l : List Nat), IsP n l → (prs l).length = m → endl m l = List.range' 1 n
  | 0, l, hp, h => hp.straight (dsc_nil (List.eq_nil_of_length_eq_zero h))
  | m + 1, l, hp, h => by
    unfold endl
    cases e : dsc l with
    | nil => rw [prs_nil e] at h; cases h
    | cons k r =>
      obtain ⟨h1, h2⟩ := mem_dsc.mp (show k ∈ dsc l by rw [e]; exact List.mem_cons_self)
      have := npr_swp h1 h2
      exact endl_ok m (swp l k) (hp.swp (by rw [hp.len] at h1; exact h1)) (by omega)
/-- the letters put to another list -/
def put (Q : List Nat) (ls : List Nat) : List Nat := ls.foldl (fun q s => swp q (s - 1)) Q
theorem put_bub {n : Nat} {l0 : List Nat} : ∀ (m : Nat) (l Q : List Nat), IsP n l → IsP n Q → (∀ i, i < n → ix l0 (ix Q i - 1) = ix l i) → IsP n (put Q (bub m l)) ∧ ∀ i, i < n → ix l0 (ix (put Q (bub m l)) i - 1) = ix (endl m l) i
  | 0, l, Q, _, hq, h => ⟨hq, h⟩
  | m + 1, l, Q, hp, hq, h => by
    unfold bub endl
    cases e : dsc l with
    | nil => exact ⟨hq, h⟩
    | cons k r =>
      obtain ⟨h1, h2⟩ := mem_dsc.mp (show k ∈ dsc l by rw [e]; exact List.mem_cons_self)
      have hk : k + 1 < n := by rw [hp.len] at h1; exact h1
      refine put_bub m (swp l k) (swp Q k) (hp.swp hk) (hq.swp hk) fun i hi => ?_
      rw [ix_swp (by rw [hq.len]; exact hk), ix_swp h1]
      exact h _ (tr_lt hk hi)
theorem bub_letters : ∀ (m : Nat) (l : List Nat), ∀ s ∈ bub m l, 1 ≤ s ∧ s < l.length
  | 0, _, s, h => by cases h
  | m + 1, l, s, h => by
    unfold bub at h
    cases e : dsc l with
    | nil => rw [e] at h; cases h
    | cons k r =>
      rw [e] at h
      obtain ⟨h1, h2⟩ := mem_dsc.mp (show k ∈ dsc l by rw [e]; exact List.mem_cons_self)
      rcases List.mem_cons.mp h with rfl | h
      · omega
      · have := bub_letters m (swp l k) s h
        rw [swp_len] at this
        exact this

/-! ### undone -/
def invN (a : List Nat) : Nat → List Nat
  | 0 => List.replicate a.length 0
  | m + 1 => (invN a m).set (ix a m - 1) (m + 1)
def inv (a : List Nat) : List Nat := invN a a.length
theorem invN_len (a : List Nat) : ∀ m, (invN a m).length = a.length
  | 0 => List.length_replicate
  | m + 1 => by unfold invN; rw [List.length_set, invN_len a m]
theorem inv_at {n : Nat} {a : List Nat} (h : IsP n a) : ∀ m, m ≤ n → ∀ k, k < m → ix (invN a m) (ix a k - 1) = k + 1
  | 0, _, k, hk => absurd hk (Nat.not_lt_zero _)
  | m + 1, hm, k, hk => by
    have a1 := h.lo m hm
    have a2 := h.hi m hm
    have b1 := h.lo k (by omega)
    have b2 := h.hi k (by omega)
    unfold invN
    rw [ix_set (by rw [invN_len, h.len]; omega)]
    by_cases e : k = m
    · subst e; rw [if_pos rfl]
    · rw [if_neg fun z => e (h.inj k m (by omega) hm (by omega))]
      exact inv_at h m (by omega) k (by omega)
theorem inv_len (a : List Nat) : (inv a).length = a.length := invN_len a _
theorem inv_ix {n : Nat} {a : List Nat} (h : IsP n a) {k : Nat} (hk : k < n) : ix (inv a) (ix a k - 1) = k + 1 := by
  unfold inv
  rw [h.len]
  exact inv_at h n (Nat.le_refl _) k hk
theorem inv_uniq {n : Nat} {a r : List Nat} (h : IsP n a) (hl : r.length = n) (hr : ∀ k, k < n → ix r (ix a k - 1) = k + 1) : r = inv a := by
  refine ext_ix (by rw [inv_len, hl, h.len]) fun i hi => ?_
  rw [hl] at hi
  obtain ⟨k, hk, e⟩ := h.surj (v := i + 1) (by omega) (by omega)
  have e2 : i = ix a k - 1 := by omega
  rw [e2, hr k hk, inv_ix h hk]
theorem IsP.inv {n : Nat} {a : List Nat} (h : IsP n a) : IsP n (inv a) := by
  have key : ∀ i, i < n → ∃ k, k < n ∧ i = ix a k - 1 ∧ ix (Pm.inv a) i = k + 1 := fun i hi => by
    obtain ⟨k, hk, e⟩ := h.surj (v := i + 1) (by omega) (by omega)
    have e2 : i = ix a k - 1 := by omega
    exact ⟨k, hk, e2, by rw [e2]; exact inv_ix h hk⟩
  refine ⟨by rw [inv_len, h.len], fun i j hi hj e => ?_, fun i hi => ?_, fun i hi => ?_⟩
  · obtain ⟨k, _, e1, e2⟩ := key i hi
    obtain ⟨k', _, e3, e4⟩ := key j hj
    have : k = k' := by omega
    subst this
    omega
  · obtain ⟨k, hk, _, e⟩ := key i hi; omega
  · obtain ⟨k, hk, _, e⟩ := key i hi; omega
/-- as many pairs turned round -/
theorem npr_inv {n : Nat} {a : List Nat} (h : IsP n a) : (prs (inv a)).length = (prs a).length := by
  have p : ((prs a).map fun p => (ix a p.2 - 1, ix a p.1 - 1)).Perm (prs (inv a)) := by
    refine perm_nd ?_ (nd_prs _) fun x => ?_
    · rw [List.nodup_iff_pairwise_ne, List.pairwise_map]
      refine List.Pairwise.imp_of_mem (fun {x y} hx hy ne e => ne ?_) (List.nodup_iff_pairwise_ne.mp (nd_prs a))
      obtain ⟨x1, x2⟩ := x
      obtain ⟨y1, y2⟩ := y
      obtain ⟨h1, h2, h3⟩ := mem_prs.mp hx
      obtain ⟨h4, h5, h6⟩ := mem_prs.mp hy
      rw [h.len] at h1 h4
      have e1 := (Prod.mk.inj e).1
      have e2 := (Prod.mk.inj e).2
      simp only at e1 e2
      have a1 := h.lo x1 (by omega); have a2 := h.lo x2 h1; have a3 := h.lo y1 (by omega); have a4 := h.lo y2 h4
      rw [h.inj x1 y1 (by omega) (by omega) (by omega), h.inj x2 y2 h1 h4 (by omega)]
    · obtain ⟨u, v⟩ := x
      rw [mem_prs, inv_len, h.len, List.mem_map]
      constructor
      · rintro ⟨⟨j, k⟩, h1, h2⟩
        obtain ⟨h3, h4, h5⟩ := mem_prs.mp h1
        rw [h.len] at h3
        cases h2
        have a1 := h.lo j (by omega); have a2 := h.lo k h3; have a3 := h.hi j (by omega)
        simp only
        rw [inv_ix h h3, inv_ix h (show j < n by omega)]
        omega
      · rintro ⟨h1, h2, h3⟩
        obtain ⟨k, hk, e⟩ := h.surj (v := v + 1) (by omega) (by omega)
        obtain ⟨j, hj, e'⟩ := h.surj (v := u + 1) (by omega) (by omega)
        have e2 : v = ix a k - 1 := by omega
        have e3 : u = ix a j - 1 := by omega
        rw [e2, e3, inv_ix h hk, inv_ix h hj] at h3
        refine ⟨(k, j), mem_prs.mpr ⟨by rw [h.len]; exact hj, by omega, by omega⟩, ?_⟩
        simp only
        rw [e2, e3]
  rw [← p.length_eq, List.length_map]
def allp (n : Nat) : List (Nat × Nat) := (List.range n).flatMap fun k => (List.range k).map fun j => (j, k)
theorem mem_allp {n j k : Nat} : (j, k) ∈ allp n ↔ k < n ∧ j < k := by
  unfold allp
  rw [List.mem_flatMap]
  constructor
  · rintro ⟨k', h1, h2⟩
    obtain ⟨j', h3, e⟩ := List.mem_map.mp h2
    cases e
    exact ⟨List.mem_range.mp h1, List.mem_range.mp h3⟩
  · rintro ⟨h1, h2⟩
    exact ⟨k, List.mem_range.mpr h1, List.mem_map.mpr ⟨j, List.mem_range.mpr h2, rfl⟩⟩
theorem len_allp : ∀ n, 2 * (allp n).length = n * (n - 1)
  | 0 => rfl
  | n + 1 => by
    have ih := len_allp n
    have e : allp (n + 1) = allp n ++ (List.range n).map fun j => (j, n) := by
      unfold allp
      rw [List.range_succ, List.flatMap_append]
      simp
    rw [e, List.length_append, List.length_map, List.length_range, Nat.mul_add, ih]
    cases n with
    | zero => rfl
    | succ m =>
      simp only [Nat.add_sub_cancel]
      have : (m + 1 + 1) * (m + 1) = (m + 1) * m + (m + 1) * 2 := by
        rw [← Nat.mul_add, Nat.mul_comm]
      rw [this]
      omega
/-- the order of what is left to the half twist -/
def rst (n : Nat) (a : List Nat) : List Nat := (inv a).map fun g => n + 1 - g
theorem npr_rst {n : Nat} {a : List Nat} (h : IsP n a) : 2 * ((prs a).length + (prs (rst n a)).length) = n * (n - 1) := by
  rw [← len_allp n, ← npr_inv h]
  have hi := h.inv
  have p : (prs (inv a) ++ prs (rst n a)).Perm (allp n) := by
    refine perm_nd (List.nodup_append.mpr ⟨nd_prs _, nd_prs _, fun x hx y hy e => ?_⟩) (nd_flat fun k => List.nodup_range) fun x => ?_
    · subst e
      obtain ⟨u, v⟩ := x
      obtain ⟨h1, h2, h3⟩ := mem_prs.mp hx
      obtain ⟨h4, h5, h6⟩ := mem_prs.mp hy
      rw [hi.len] at h1
      unfold rst at h6
      rw [ix_map (by rw [hi.len]; exact h1), ix_map (by rw [hi.len]; omega)] at h6
      have := hi.hi u (by omega)
      have := hi.hi v h1
      omega
    · obtain ⟨u, v⟩ := x
      rw [List.mem_append, mem_prs, mem_prs, mem_allp]
      have hl : (rst n a).length = n := by unfold rst; rw [List.length_map, hi.len]
      rw [hl, hi.len]
      constructor
      · rintro (⟨a1, a2, a3⟩ | ⟨a1, a2, a3⟩)
        · exact ⟨a1, a2⟩
        · exact ⟨a1, a2⟩
      · rintro ⟨a1, a2⟩
        have b1 := hi.hi u (by omega)
        have b2 := hi.hi v a1
        have ne : ix (inv a) u ≠ ix (inv a) v := fun e => by have := hi.inj u v (by omega) a1 e; omega
        by_cases c : ix (inv a) v < ix (inv a) u
        · exact .inl ⟨a1, a2, c⟩
        · refine .inr ⟨a1, a2, ?_⟩
          unfold rst
          rw [ix_map (by rw [hi.len]; exact a1), ix_map (by rw [hi.len]; omega)]
          omega
  have := p.length_eq
  rw [List.length_append] at this
  omega
end Pm

namespace Pm
theorem ix_id {n i : Nat} (h : i < n) : ix (List.range' 1 n) i = i + 1 := by rw [ix_range' h]; omega
/-- a value exchanged with the next one -/
def vsw (n k g : Nat) : Nat := ix (swp (List.range' 1 n) k) (g - 1)
theorem vsw_eq {n k g : Nat} (hk : k + 1 < n) (h1 : 1 ≤ g) (h2 : g ≤ n) : vsw n k g = tr k (g - 1) + 1 := by
  unfold vsw
  rw [ix_swp (by rw [List.length_range']; exact hk), ix_id (tr_lt hk (by omega))]
theorem swp_map {n k : Nat} {l : List Nat} (hl : l.length = n) (hk : k + 1 < n) : ((swp (List.range' 1 n) k).map fun g => ix l (g - 1)) = swp l k := by
  have hk' : k + 1 < (List.range' 1 n).length := by rw [List.length_range']; exact hk
  refine ext_ix (by rw [List.length_map, swp_len, swp_len, List.length_range', hl]) fun i hi => ?_
  rw [List.length_map, swp_len, List.length_range'] at hi
  rw [ix_map (by rw [swp_len, List.length_range']; exact hi), ix_swp hk', ix_swp (by rw [hl]; exact hk), ix_id (tr_lt hk hi), Nat.add_sub_cancel]

end Pm

namespace G09
open PySem PySem.Spec PyProof.Rows L2 Vl Pm
def nsD (l : List Nat) : List D := (l.map Int.ofNat).map D.int
theorem nsD_len (l : List Nat) : (nsD l).length = l.length := by unfold nsD; rw [List.length_map, List.length_map]
theorem nsD_cons (t : Nat) (ts : List Nat) : nsD (t :: ts) = .int (t : Nat) :: nsD ts := rfl
theorem nsD_app (l m : List Nat) : nsD (l ++ m) = nsD l ++ nsD m := by unfold nsD; rw [List.map_append, List.map_append]
theorem nsD_map (l : List Nat) (f : Nat → Nat) : nsD (l.map f) = l.map fun k => D.int ((f k : Nat) : Int) := by unfold nsD; rw [List.map_map, List.map_map]; rfl
theorem nsD_eq (l : List Nat) : nsD l = l.map fun k => D.int ((k : Nat) : Int) := by unfold nsD; rw [List.map_map]; rfl
@[simp] theorem no_ns (l : List Nat) : D.noOwnL (nsD l) = true := noOwnL_ints _
@[simp] theorem nofz_ns (l : List Nat) : D.noFzL (nsD l) = true := noFzL_ints _
@[simp] theorem frz_ns (l : List Nat) : D.frzL (nsD l) = nsD l := frzL_ints _
@[simp] theorem frz_tns (l : List Nat) : D.frz (.tup (nsD l)) = .tup (nsD l) := congrArg D.tup (frz_ns l)
theorem mem_ns {l : List Nat} {d : D} (h : d ∈ nsD l) : ∃ k, k ∈ l ∧ d = .int (k : Nat) := by
  rw [nsD_eq] at h
  obtain ⟨k, h1, rfl⟩ := List.mem_map.mp h
  exact ⟨k, h1, rfl⟩
theorem atN {l : List Nat} {j : Int} (i : Nat) (e : j = (i : Nat)) (h : i < l.length) : L2.atI (nsD l) j = some (.int (ix l i : Nat)) := by
  subst e
  refine atI_i ?_
  rw [List.getElem?_map, ix_some h]
  rfl
theorem rg_ns (a n : Nat) : rgItems (a : Nat) n = nsD (List.range' a n) := by
  unfold rgItems
  rw [nsD_eq, List.range'_eq_map_range, List.map_map]
  refine List.map_congr_left fun i _ => ?_
  show D.int _ = D.int _
  congr 1
theorem rg0_ns (n : Nat) : rgItems 0 n = nsD (List.range n) := by
  have := rg_ns 0 n
  rw [← List.range_eq_range'] at this
  exact this
theorem set_ns (l : List Nat) (k v : Nat) : (nsD l).set k (.int (v : Nat)) = nsD (l.set k v) := by
  unfold nsD
  rw [List.map_set, List.map_set]
  rfl
theorem ixN_nat {n : Nat} {j : Int} (i : Nat) (e : j = (i : Nat)) (h : i < n) : L2.ixN n j = some i := by
  subst e
  unfold L2.ixN
  rw [if_pos (by omega), if_pos (by omega), Int.toNat_natCast]
theorem gSet_ns {l : List Nat} {j w : Int} (i v : Nat) (e : j = (i : Nat)) (ev : w = (v : Nat)) (h : i < l.length) : gSet (.lst true (nsD l)) (.int j) (.int w) = some (.lst true (nsD (l.set i v))) := by
  subst ev
  show (if D.noOwnL (nsD l) = true then (ixN (nsD l).length j).map fun k => D.lst true ((nsD l).set k (.int (v : Nat))) else none) = _
  rw [if_pos (no_ns l), nsD_len, ixN_nat i e h, Option.map_some, set_ns]
theorem comp_ns {i : Nat} {fi : M (List D)} {ft : M Bool} {fe : M D} {ρ0 ρ1 : Vl.Env} {l : List Nat} (p : Nat → Bool) (h : Nat → D) (hi : fi ρ0 = some (nsD l, ρ1)) (ho : ownOk ρ1 [i] = true) (ht : ∀ k ∈ l, ft (ρ1.set i (some (.int (k : Nat)))) = some (p k, ρ1.set i (some (.int (k : Nat)))))
    (he : ∀ k ∈ l, p k = true → fe (ρ1.set i (some (.int (k : Nat)))) = some (h k, ρ1.set i (some (.int (k : Nat))))) (hl : l.length ≤ 100000) : fComp [i] fi (gNm i) ft fe ρ0 = some (.lst true ((l.filter p).map h), ρ1) := by
  have e := fComp_pure (i := i) (ft := ft) (fe := fe) (fun d => match d with | .int z => p z.toNat | _ => false) (fun d => match d with | .int z => h z.toNat | _ => d) hi ho (fun d hd => ?_) (fun d hd hp => ?_) (by rw [nsD_len]; exact hl)
  · rw [e]
    congr 2
    congr 1
    rw [nsD_eq, List.filter_map, List.map_map]
    have e1 : ((fun d => match d with | D.int z => p z.toNat | _ => false) ∘ fun k : Nat => D.int (k : Nat)) = p := by
      funext k
      simp
    rw [e1]
    refine List.map_congr_left fun k _ => ?_
    simp
  · obtain ⟨k, hk, rfl⟩ := mem_ns hd
    simpa using ht k hk
  · obtain ⟨k, hk, rfl⟩ := mem_ns hd
    simpa using he k hk (by simpa using hp)
theorem comp_all {i : Nat} {fi : M (List D)} {fe : M D} {ρ0 ρ1 : Vl.Env} {l : List Nat} (h : Nat → D) (hi : fi ρ0 = some (nsD l, ρ1)) (ho : ownOk ρ1 [i] = true)
    (he : ∀ k ∈ l, fe (ρ1.set i (some (.int (k : Nat)))) = some (h k, ρ1.set i (some (.int (k : Nat))))) (hl : l.length ≤ 100000) : fComp [i] fi (gNm i) fYes fe ρ0 = some (.lst true (l.map h), ρ1) := by
  have := comp_ns (ft := fYes) (fun _ => true) h hi ho (fun _ _ => rfl) (fun k hk _ => he k hk) hl
  rwa [List.filter_eq_self.mpr fun _ _ => rfl] at this
theorem eokL_ints : ∀ ns : List Int, D.eokL (ns.map D.int) = true
  | [] => rfl
  | n :: r => by show (D.eok (.int n) && D.eokL (r.map D.int)) = true; rw [eokL_ints r]; rfl
theorem depL_ints : ∀ ns : List Int, D.depL (ns.map D.int) = 0
  | [] => by simp [D.depL]
  | n :: r => by simp [D.depL, D.dep, depL_ints r]
theorem eqvAll_ints : ∀ ns ns' : List Int, PyData.eqvAll (D.toPL (ns.map D.int)) (D.toPL (ns'.map D.int)) = decide (ns = ns')
  | [], [] => by simp [D.toPL, PyData.eqvAll]
  | [], _ :: _ => by simp [D.toPL, PyData.eqvAll]
  | _ :: _, [] => by simp [D.toPL, PyData.eqvAll]
  | a :: r, b :: s => by
    simp only [List.map_cons, D.toPL, D.toP, PyData.eqvAll, PyData.eqv, eqvAll_ints r s]
    by_cases h : a = b <;> by_cases h2 : r = s <;> simp [h, h2]
/-- lists, tuples of ints -/
inductive Row : D → List Int → Bool → Prop
  | tup (l : List Int) : Row (.tup (l.map D.int)) l true
  | xt (l : List Int) : Row (.xt (l.map D.int)) l true
  | lst (o : Bool) (l : List Int) : Row (.lst o (l.map D.int)) l false
theorem Row.ok {d : D} {l : List Int} {b : Bool} (r : Row d l b) : eqOk d = true := by
  unfold eqOk
  cases r <;> simp [D.eok, D.dep, eokL_ints, depL_ints]
theorem Row.eq {d e : D} {l m : List Int} {b : Bool} (r : Row d l b) (s : Row e m b) : pyEq d e = decide (l = m) := by
  unfold pyEq
  cases r <;> cases s <;> simp [D.toP, PyData.eqv, eqvAll_ints]
theorem Row.gNe {d e : D} {l m : List Int} {b : Bool} (r : Row d l b) (s : Row e m b) : Vl.gNe d e = some (.bl (!decide (l = m))) := by
  unfold Vl.gNe
  rw [r.ok, s.ok, r.eq s]
  rfl
theorem ne_same {d e : D} {l : List Int} {b : Bool} (r : Row d l b) (s : Row e l b) : Vl.gNe d e = some (.bl false) := by
  rw [r.gNe s, decide_eq_true rfl]
  rfl
theorem row_t (l : List Nat) : Row (.tup (nsD l)) (l.map Int.ofNat) true := .tup _
theorem row_x (l : List Nat) : Row (.xt (nsD l)) (l.map Int.ofNat) true := .xt _
theorem row_l (o : Bool) (l : List Nat) : Row (.lst o (nsD l)) (l.map Int.ofNat) false := .lst o _
theorem ofNat_inj {l m : List Nat} : (l.map Int.ofNat = m.map Int.ofNat) ↔ l = m := by
  constructor
  · intro h
    have := congrArg (List.map Int.toNat) h
    rw [List.map_map, List.map_map] at this
    have e : Int.toNat ∘ Int.ofNat = id := rfl
    rwa [e, List.map_id, List.map_id] at this
  · rintro rfl; rfl

/-! ### the program's small functions -/
theorem okR_n {j : Int} (h1 : 0 ≤ j) (h : j ≤ 1000000) : okR j = true := by
  unfold okR
  rw [decide_eq_true (by omega), decide_eq_true (by omega)]
  rfl
theorem okRg_n {i j : Int} (h1 : 0 ≤ i) (h2 : i ≤ 1000) (h3 : 0 ≤ j) (h : j ≤ 10000) : okRg i j = true := by
  unfold okRg
  rw [okR_n h1 (by omega), okR_n h3 (by omega), decide_eq_true (by omega)]
  rfl
theorem rg1_ns (n : Nat) : rgItems 1 n = nsD (List.range' 1 n) := rg_ns 1 n
theorem straight_ok (n : Nat) (h : n ≤ 1000) : F_straight [.int (n : Nat)] = some (.tup (nsD (List.range' 1 n)), []) := by
  have e1 : F_straight [.int (n : Nat)] = some (.tup (rgItems 1 ((n : Int) + 1 - 1).toNat), []) :=
    run_rt (ρ := [some (.int (n : Nat))]) rfl (ret_ok (tupRg_ok (rRg2_ok rfl rfl) (okRg_n (by omega) (by omega) (by omega) (by omega))))
  rw [e1, show ((n : Int) + 1 - 1).toNat = n by omega, rg1_ns]
theorem after_ok (a b : List Nat) (ha : ∀ g ∈ a, 1 ≤ g ∧ g ≤ b.length) (hl : a.length ≤ 1000) : F_after [.tup (nsD a), .tup (nsD b)] = some (.tup (nsD (a.map fun g => ix b (g - 1))), []) := by
  unfold F_after
  refine run_rt (ρ := [some (.tup (nsD a)), some (.tup (nsD b)), none]) rfl (ret_ok (cl_ok (cons_ok (comp_all (ρ1 := [some (.tup (nsD a)), some (.tup (nsD b)), none]) (l := a) (fun g => .int (ix b (g - 1) : Nat)) ?_ rfl (fun g hg => ?_) (by omega)) rfl rfl) ?_))
  · exact seq_it (d := .tup (nsD a)) rfl (by simp [itemsOf])
  · have e := atN (l := b) (j := (g : Int) - 1) (g - 1) (by have := ha g hg; omega) (by have := ha g hg; omega)
    exact chk_ok (ixt_ok rfl rfl rfl e) rfl
  · rw [nsD_map]
    show (if D.noOwnL (a.map fun g => D.int (ix b (g - 1) : Nat)) = true then _ else none) = _
    have e := no_ns (a.map fun g => ix b (g - 1))
    rw [nsD_map] at e
    rw [if_pos e]
theorem swap_ok (n k : Nat) (h : n ≤ 1000) (hk : k + 1 < n) : F_swap [.int (n : Nat), .int ((k + 1 : Nat) : Int)] = some (.tup (nsD (swp (List.range' 1 n) k)), []) := by
  have l0 : (List.range' 1 n).length = n := List.length_range'
  have e4 := atN (l := List.range' 1 n) (j := ((k + 1 : Nat) : Int)) (k + 1) rfl (by rw [l0]; exact hk)
  have e5 := atN (l := List.range' 1 n) (j := ((k + 1 : Nat) : Int) - 1) k (by omega) (by rw [l0]; omega)
  have e6 := gSet_ns (l := List.range' 1 n) (j := ((k + 1 : Nat) : Int) - 1) k (ix (List.range' 1 n) (k + 1)) (by omega) rfl (by rw [l0]; omega)
  have e7 := gSet_ns (l := (List.range' 1 n).set k (ix (List.range' 1 n) (k + 1))) (j := ((k + 1 : Nat) : Int)) (k + 1) (ix (List.range' 1 n) k) rfl rfl (by rw [List.length_set, l0]; omega)
  have e8 : fLstRg (rRg2 [] ([] ++ []) (fC (.int 1)) (fOp [0] [] gAdd (fVar 0) (fC (.int 1)))) [some (.int (n : Nat)), some (.int ((k + 1 : Nat) : Int)), none] = some (.lst true (nsD (List.range' 1 n)), [some (.int (n : Nat)), some (.int ((k + 1 : Nat) : Int)), none]) := by
    rw [lstRg_ok (ρ1 := [some (.int (n : Nat)), some (.int ((k + 1 : Nat) : Int)), none]) (rRg2_ok rfl rfl) (okRg_n (by omega) (by omega) (by omega) (by omega)), show ((n : Int) + 1 - 1).toNat = n by omega, rg1_ns]
  unfold F_swap
  refine run_at (ρ := [some (.int (n : Nat)), some (.int ((k + 1 : Nat) : Int)), some (.lst true (nsD (swp (List.range' 1 n) k)))]) (ρ0 := [some (.int (n : Nat)), some (.int ((k + 1 : Nat) : Int)), none]) rfl rfl ?_
  rw [seq_nx (ρ' := [some (.int (n : Nat)), some (.int ((k + 1 : Nat) : Int)), some (.lst true (nsD (List.range' 1 n)))]) (set_to e8 rfl)]
  rw [seq_nx (ρ' := [some (.int (n : Nat)), some (.int ((k + 1 : Nat) : Int)), some (.lst true (nsD (swp (List.range' 1 n) k)))]) (asg_ok (tup_ok (cons_ok (chk_ok (ixl_ok rfl rfl rfl e4) rfl) (cons_ok (chk_ok (ixl_ok rfl rfl rfl e5) rfl) rfl rfl) rfl) rfl) rfl (tp2_ok (st_ok rfl rfl rfl e6 rfl) (st_ok rfl rfl rfl e7 rfl)))]
  refine ret_ok (cl_ok (cons_ok rfl rfl rfl) ?_)
  show (if D.noOwnL (nsD (swp (List.range' 1 n) k)) = true then _ else none) = _
  rw [if_pos (no_ns _)]
end G09

namespace Vl
open PySem PySem.Spec PyProof.Rows L2
theorem forL_bk' {g : D → Vl.Env → Option Vl.Env} {body : MS} {d : D} {ds : List D} {ρ ρ1 ρ2 : Vl.Env} (h1 : g d ρ = some ρ1) (h2 : body ρ1 = some (.bk ρ2)) : forL g body (d :: ds) ρ = some (.nx ρ2) := forL_bk h1 h2
/-- a loop whose variable stands in slot i -/
theorem for_seq {i : Nat} {body : MS} : ∀ (ds : List D) (σ : Nat → Vl.Env) (x : Option D), (∀ k d, ds[k]? = some d → ∃ y, body ((σ k).set i (some d)) = some (.nx ((σ (k + 1)).set i y))) → ∃ y, forL (gNm i) body ds ((σ 0).set i x) = some (.nx ((σ ds.length).set i y))
  | [], σ, x, _ => ⟨x, rfl⟩
  | d :: ds, σ, x, h => by
    obtain ⟨y, hy⟩ := h 0 d rfl
    obtain ⟨z, hz⟩ := for_seq (i := i) (body := body) ds (fun k => σ (k + 1)) y fun k e he => h (k + 1) e he
    refine ⟨z, ?_⟩
    rw [forL_nx (ρ1 := (σ 0).set i (some d)) (by show some (((σ 0).set i x).set i (some d)) = _; rw [List.set_set]) hy]
    exact hz
end Vl
namespace G09
open PySem PySem.Spec PyProof.Rows L2 Vl Pm
theorem ns_get {l : List Nat} {k : Nat} {d : D} (h : (nsD l)[k]? = some d) : k < l.length ∧ d = .int (ix l k : Nat) := by
  rw [nsD_eq, List.getElem?_map] at h
  obtain ⟨v, h1, h2⟩ := Option.map_eq_some_iff.mp h
  exact ⟨(List.getElem?_eq_some_iff.mp h1).1, by rw [ix_of h1]; exact h2.symm⟩
/-- for k in range(n) -/
theorem for_rg {i n : Nat} {body : MS} (σ : Nat → Vl.Env) (x : Option D) (h : ∀ k, k < n → ∃ y, body ((σ k).set i (some (.int (k : Nat)))) = some (.nx ((σ (k + 1)).set i y))) : ∃ y, forL (gNm i) body (nsD (List.range n)) ((σ 0).set i x) = some (.nx ((σ n).set i y)) := by
  obtain ⟨y, hy⟩ := for_seq (i := i) (body := body) (nsD (List.range n)) σ x fun k d hd => by
    obtain ⟨h1, rfl⟩ := ns_get hd
    rw [List.length_range] at h1
    rw [ix_range h1]
    exact h k h1
  rw [nsD_len, List.length_range] at hy
  exact ⟨y, hy⟩
theorem for_ns {i : Nat} {body : MS} (l : List Nat) (σ : Nat → Vl.Env) (x : Option D) (h : ∀ k, k < l.length → ∃ y, body ((σ k).set i (some (.int (ix l k : Nat)))) = some (.nx ((σ (k + 1)).set i y))) : ∃ y, forL (gNm i) body (nsD l) ((σ 0).set i x) = some (.nx ((σ l.length).set i y)) := by
  obtain ⟨y, hy⟩ := for_seq (i := i) (body := body) (nsD l) σ x fun k d hd => by
    obtain ⟨h1, rfl⟩ := ns_get hd
    exact h k h1
  rw [nsD_len] at hy
  exact ⟨y, hy⟩
theorem rep_ns (n v : Nat) : (List.replicate n [D.int (v : Nat)]).flatten = nsD (List.replicate n v) := by
  induction n with
  | zero => rfl
  | succ n ih => rw [List.replicate_succ, List.flatten_cons, ih]; rfl
theorem gMul_rep (n : Nat) (h : n ≤ 1000) : gMul (.lst true [.int 0]) (.int (n : Nat)) = some (.lst true (nsD (List.replicate n 0))) := by
  have e : repOk 1 (n : Nat) = true := by
    unfold repOk
    simp
    omega
  show (if (repOk 1 (n : Nat) && D.noOwnL [.int 0]) = true then some (D.lst true (rep (n : Nat) [.int 0])) else none) = _
  rw [e, if_pos (by rfl)]
  unfold rep
  rw [Int.toNat_natCast]
  exact congrArg (fun l => some (D.lst true l)) (rep_ns n 0)
theorem gLen_ns (l : List Nat) : gLen [.tup (nsD l)] = some (.int (l.length : Nat)) := by rw [gLen_t, nsD_len]
theorem gLen_nl (o : Bool) (l : List Nat) : gLen [.lst o (nsD l)] = some (.int (l.length : Nat)) := by rw [gLen_l, nsD_len]
theorem gTuple_ns (o : Bool) (l : List Nat) : gTuple [.lst o (nsD l)] = some (.tup (nsD l)) := by
  show (if D.noOwnL (nsD l) = true then _ else none) = _
  rw [if_pos (no_ns _)]

end G09

namespace Vl
open PySem PySem.Spec PyProof.Rows L2
section
variable {ρ ρ1 ρ2 : Vl.Env} {ds : List D}
theorem callM_ok {F : FD} {i : Nat} {fr : M (List D)} {o0 o o' r : D} (h0 : Env.at ρ i = some o0) (h1 : fr ρ = some (ds, ρ1)) (h2 : Env.at ρ1 i = some o) (h3 : D.noOwnL ds = true) (h4 : F (o :: ds) = some (r, [o'])) (h5 : ρ1.set i (some o') = ρ2) : fCallM F i fr ρ = some (r, ρ2) := by
  show (Env.at ρ i).bind _ = _
  rw [h0, Option.bind_some, h1, Option.bind_some, h2, Option.bind_some, if_pos h3, h4, ← h5]
  rfl
theorem mut_ok {i : Nat} {ty : String} {g : D → List D → Option (D × D)} {fr : M (List D)} {o0 o o' r : D} (h0 : Env.at ρ i = some o0) (ht : tyIs ty o0 = true) (h1 : fr ρ = some (ds, ρ1)) (h2 : Env.at ρ1 i = some o) (h4 : g o ds = some (r, o')) (h5 : ρ1.set i (some o') = ρ2) : fMut i ty g fr ρ = some (r, ρ2) := by
  show (Env.at ρ i).bind _ = _
  rw [h0, Option.bind_some, if_pos ht, h1, Option.bind_some, h2, Option.bind_some, h4, ← h5]
  rfl
theorem drop_ok {f : M D} {r : D} (h : f ρ = some (r, ρ1)) : sDrop f ρ = some (.nx ρ1) := by
  show (f ρ).bind _ = _
  rw [h]
  rfl
end
end Vl
namespace G09
open PySem PySem.Spec PyProof.Rows L2 Vl Pm
theorem gApp_ns (l : List Nat) (v : Nat) (h : l.length ≤ 100000) : gAppend (.lst true (nsD l)) [.int (v : Nat)] = some (.non, .lst true (nsD (l ++ [v]))) := by
  show (if szOk (nsD l).length = true then some (D.non, D.lst true (nsD l ++ [.int (v : Nat)])) else none) = _
  rw [nsD_len, if_pos (show szOk l.length = true from decide_eq_true h), nsD_app]
  rfl
theorem truth_ns (o : Bool) (l : List Nat) : truth (.lst o (nsD l)) = some (!l.isEmpty) := by
  cases l <;> rfl
end G09

namespace Pm
def sg (x : Int) : Int := if x < 0 then -1 else 1
/-! ### neighbours that undo each other -/
def Rd (l : List Int) : Prop := ∀ a x y b, l = a ++ x :: y :: b → x ≠ -y
def stp (s : List Int) (x : Int) : List Int := match s.getLast? with
  | some t => if t = -x then s.dropLast else s ++ [x]
  | none => s ++ [x]
theorem stp_nil (x : Int) : stp [] x = [x] := rfl
theorem stp_snoc (s : List Int) (t x : Int) : stp (s ++ [t]) x = if t = -x then s else s ++ [t] ++ [x] := by
  unfold stp
  rw [List.getLast?_concat]
  show (if t = -x then (s ++ [t]).dropLast else s ++ [t] ++ [x]) = _
  rw [List.dropLast_concat]
theorem snoc_cases (s : List Int) : s = [] ∨ ∃ s' t, s = s' ++ [t] := by
  rcases List.eq_nil_or_concat s with h | ⟨s', t, h⟩
  · exact .inl h
  · exact .inr ⟨s', t, by rw [h, List.concat_eq_append]⟩
theorem Rd.pre {a b : List Int} (h : Rd (a ++ b)) : Rd a := fun u x y v e => h u x y (v ++ b) (by rw [e]; simp)
theorem Rd.snoc {s : List Int} {x : Int} (h : Rd s) (h2 : ∀ s' t, s = s' ++ [t] → t ≠ -x) : Rd (s ++ [x]) := fun a u v b e => by
  rcases snoc_cases b with rfl | ⟨b', z, rfl⟩
  · have e' : s ++ [x] = (a ++ [u]) ++ [v] := by rw [e]; simp
    obtain ⟨e1, e2⟩ := List.append_inj' e' rfl
    cases e2
    exact h2 a u e1
  · have e' : s ++ [x] = (a ++ u :: v :: b') ++ [z] := by rw [e]; simp
    obtain ⟨e1, _⟩ := List.append_inj' e' rfl
    exact h a u v b' e1
theorem Rd.stp {s : List Int} {x : Int} (h : Rd s) : Rd (stp s x) := by
  rcases snoc_cases s with rfl | ⟨s', t, rfl⟩
  · rw [stp_nil]
    intro a u v b e
    have := congrArg List.length e
    simp at this
    omega
  · rw [stp_snoc]
    by_cases c : t = -x
    · rw [if_pos c]; exact h.pre
    · rw [if_neg c]
      exact h.snoc fun s2 t2 e => by
        obtain ⟨_, e2⟩ := List.append_inj' e rfl
        cases e2
        exact c
def red1 : List Int → List Int
  | x :: y :: r => if x = -y then r else x :: red1 (y :: r)
  | [x] => [x]
  | [] => []
theorem undo2 {s : List Int} {x y : Int} (h : Rd s) (e : x = -y) : stp (stp s x) y = s := by
  rcases snoc_cases s with rfl | ⟨s', t, rfl⟩
  · rw [stp_nil]
    have := stp_snoc [] x y
    rw [if_pos e] at this
    exact this
  · rw [stp_snoc]
    by_cases c : t = -x
    · rw [if_pos c]
      have ty : t = y := by omega
      subst ty
      rcases snoc_cases s' with rfl | ⟨s2, u, rfl⟩
      · rfl
      · rw [stp_snoc, if_neg]
        exact h s2 u t [] (by simp)
    · rw [if_neg c, stp_snoc, if_pos e]
theorem fold_red1 : ∀ (b s : List Int), Rd s → (red1 b).foldl stp s = b.foldl stp s
  | [], _, _ => rfl
  | [x], _, _ => rfl
  | x :: y :: r, s, h => by
    unfold red1
    by_cases c : x = -y
    · rw [if_pos c, List.foldl_cons, List.foldl_cons, undo2 h c]
    · rw [if_neg c, List.foldl_cons, fold_red1 (y :: r) _ h.stp]
      rfl
theorem stp_app {s : List Int} {x : Int} (h : ∀ s' t, s = s' ++ [t] → t ≠ -x) : stp s x = s ++ [x] := by
  rcases snoc_cases s with rfl | ⟨s', t, rfl⟩
  · rfl
  · rw [stp_snoc, if_neg (h s' t rfl)]
theorem red1_or : ∀ b : List Int, (red1 b).length + 2 = b.length ∨ (red1 b = b ∧ ∀ s, Rd s → (∀ s' t x r, s = s' ++ [t] → b = x :: r → t ≠ -x) → b.foldl stp s = s ++ b)
  | [] => .inr ⟨rfl, fun s _ _ => by simp⟩
  | [x] => .inr ⟨rfl, fun s _ h => stp_app fun s' t e => h s' t x [] e rfl⟩
  | x :: y :: r => by
    by_cases c : x = -y
    · refine .inl ?_
      unfold red1
      rw [if_pos c]
      simp
    · rcases red1_or (y :: r) with h | ⟨h1, h2⟩
      · refine .inl ?_
        unfold red1
        rw [if_neg c, List.length_cons, List.length_cons, List.length_cons]
        rw [List.length_cons] at h
        omega
      · refine .inr ⟨by unfold red1; rw [if_neg c, h1], fun s hs hc => ?_⟩
        have e1 := stp_app fun s' t e => hc s' t x (y :: r) e rfl
        rw [List.foldl_cons, e1, h2 _ (hs.snoc fun s' t e => hc s' t x (y :: r) e rfl) fun s' t x' r' e1 e2 => by
          obtain ⟨_, e3⟩ := List.append_inj' e1 rfl
          cases e3
          cases e2
          exact c]
        simp
def rdK (l : List Int) : Nat → List Int
  | 0 => l
  | n + 1 => red1 (rdK l n)
theorem rdK_succ (l : List Int) : ∀ n, rdK l (n + 1) = rdK (red1 l) n
  | 0 => rfl
  | n + 1 => by
    show red1 (rdK l (n + 1)) = red1 (rdK (red1 l) n)
    rw [rdK_succ l n]
theorem rdK_fix {l : List Int} (h : red1 l = l) : ∀ n, rdK l n = l
  | 0 => rfl
  | n + 1 => by
    show red1 (rdK l n) = l
    rw [rdK_fix h n, h]
theorem rd_nil : Rd [] := fun a x y b e => by
  have := congrArg List.length e
  simp at this
theorem rdK_ok : ∀ (n : Nat) (l : List Int), l.length ≤ 2 * n + 1 → rdK l n = l.foldl stp []
  | 0, [], _ => rfl
  | 0, [x], _ => rfl
  | 0, _ :: _ :: _, h => by simp at h
  | n + 1, l, h => by
    rcases red1_or l with h1 | ⟨h1, h2⟩
    · rw [rdK_succ, rdK_ok n (red1 l) (by omega), fold_red1 l [] rd_nil]
    · rw [rdK_fix h1, h2 [] rd_nil fun s' t x r e => by simp at e]
      rfl
theorem rdK_len (l : List Int) : ∀ n, (rdK l n).length ≤ l.length
  | 0 => Nat.le_refl _
  | n + 1 => by
    have := rdK_len l n
    show (red1 (rdK l n)).length ≤ _
    rcases red1_or (rdK l n) with h | ⟨h, _⟩
    · omega
    · rw [h]; exact this

/-! ### where the strands go -/
def Wd (n : Nat) (w : List Int) : Prop := ∀ x ∈ w, x ≠ 0 ∧ x.natAbs < n
def plc (n : Nat) (w : List Int) : List Nat := w.foldl (fun p x => swp p (x.natAbs - 1)) (List.range' 1 n)
def ordS (n : Nat) (o : List Nat) (x : Int) : List Nat := o.map fun g => ix (swp (List.range' 1 n) (x.natAbs - 1)) (g - 1)
def ord (n : Nat) (w : List Int) : List Nat := w.foldl (ordS n) (List.range' 1 n)
theorem pk {n : Nat} {x : Int} (h : x ≠ 0 ∧ x.natAbs < n) : x.natAbs - 1 + 1 < n := by omega
theorem walk_ok {n : Nat} : ∀ (w : List Int) (p o : List Nat), Wd n w → IsP n p → o.length = n → (∀ i, i < n → ix o (ix p i - 1) = i + 1) →
    IsP n (w.foldl (fun p x => swp p (x.natAbs - 1)) p) ∧ (w.foldl (ordS n) o).length = n ∧ ∀ i, i < n → ix (w.foldl (ordS n) o) (ix (w.foldl (fun p x => swp p (x.natAbs - 1)) p) i - 1) = i + 1
  | [], p, o, _, hp, ho, h => ⟨hp, ho, h⟩
  | x :: w, p, o, hw, hp, ho, h => by
    have hk := pk (hw x List.mem_cons_self)
    refine walk_ok w _ _ (fun y hy => hw y (List.mem_cons_of_mem _ hy)) (hp.swp hk) (by unfold ordS; rw [List.length_map, ho]) fun i hi => ?_
    have hl : x.natAbs - 1 + 1 < p.length := by rw [hp.len]; exact hk
    have lo := hp.lo _ (tr_lt hk hi)
    have h2 := hp.hi _ (tr_lt hk hi)
    rw [ix_swp hl]
    unfold ordS
    rw [ix_map (by rw [ho]; omega), h _ (tr_lt hk hi), Nat.add_sub_cancel, ix_swp (by rw [List.length_range']; exact hk), tr_tr, ix_id hi]
theorem plc_isP {n : Nat} {w : List Int} (h : Wd n w) : IsP n (plc n w) := (walk_ok w (List.range' 1 n) (List.range' 1 n) h (isP_id n) (by rw [List.length_range']) fun i hi => by rw [ix_id hi, Nat.add_sub_cancel, ix_id hi]).1
theorem ord_inv {n : Nat} {w : List Int} (h : Wd n w) : ord n w = inv (plc n w) := by
  obtain ⟨h1, h2, h3⟩ := walk_ok w (List.range' 1 n) (List.range' 1 n) h (isP_id n) (by rw [List.length_range']) fun i hi => by rw [ix_id hi, Nat.add_sub_cancel, ix_id hi]
  exact inv_uniq h1 h2 h3
theorem ord_isP {n : Nat} {w : List Int} (h : Wd n w) : IsP n (ord n w) := by
  rw [ord_inv h]
  exact (plc_isP h).inv
theorem Wd.pre {n : Nat} {a b : List Int} (h : Wd n (a ++ b)) : Wd n a := fun x hx => h x (List.mem_append_left _ hx)

/-! ### tables -/
abbrev Tb := List ((Nat × Nat) × Int)
def look (T : Tb) (q : Nat × Nat) : Option Int := match T with
  | [] => none
  | p :: r => if p.1 = q then some p.2 else look r q
def has (T : Tb) (q : Nat × Nat) : Bool := match T with
  | [] => false
  | p :: r => decide (p.1 = q) || has r q
def putT (T : Tb) (q : Nat × Nat) (v : Int) : Tb := if has T q = true then T.map fun p => if p.1 = q then (p.1, v) else p else T ++ [(q, v)]
def key (p : List Nat) (k : Nat) : Nat × Nat := (min (ix p k) (ix p (k + 1)), max (ix p k) (ix p (k + 1)))
def tbS (s : List Nat × Tb) (x : Int) : List Nat × Tb := (swp s.1 (x.natAbs - 1), putT s.2 (key s.1 (x.natAbs - 1)) ((look s.2 (key s.1 (x.natAbs - 1))).getD 0 + sg x))
def tab (n : Nat) (w : List Int) : List Nat × Tb := w.foldl tbS (List.range' 1 n, [])
theorem has_iff {T : Tb} {q : Nat × Nat} : has T q = true ↔ q ∈ T.map (·.1) := by
  induction T with
  | nil => simp [has]
  | cons p r ih =>
    unfold has
    rw [Bool.or_eq_true, ih, decide_eq_true_iff, List.map_cons, List.mem_cons]
    constructor
    · rintro (h | h)
      · exact .inl h.symm
      · exact .inr h
    · rintro (h | h)
      · exact .inl h.symm
      · exact .inr h
theorem putT_keys (T : Tb) (q : Nat × Nat) (v : Int) : (putT T q v).map (·.1) = if has T q = true then T.map (·.1) else T.map (·.1) ++ [q] := by
  unfold putT
  split
  · rw [List.map_map]
    refine List.map_congr_left fun p _ => ?_
    show (if p.1 = q then (p.1, v) else p).1 = p.1
    split <;> rfl
  · rw [List.map_append]
    rfl
theorem putT_nd {T : Tb} {q : Nat × Nat} {v : Int} (h : (T.map (·.1)).Nodup) : ((putT T q v).map (·.1)).Nodup := by
  rw [putT_keys]
  split
  · exact h
  · rename_i hn
    rw [List.nodup_append]
    refine ⟨h, by simp, fun a ha b hb => ?_⟩
    simp at hb
    subst hb
    rintro rfl
    exact hn (has_iff.mpr ha)
theorem putT_len (T : Tb) (q : Nat × Nat) (v : Int) : (putT T q v).length ≤ T.length + 1 := by
  unfold putT
  split
  · rw [List.length_map]; omega
  · rw [List.length_append]; simp
theorem putT_mem {T : Tb} {q : Nat × Nat} {v : Int} {P : Nat × Nat → Prop} (h : ∀ p ∈ T, P p.1) (hq : P q) : ∀ p ∈ putT T q v, P p.1 := by
  intro p hp
  have hp : p.1 ∈ (putT T q v).map (·.1) := List.mem_map_of_mem hp
  rw [putT_keys] at hp
  have h' : ∀ u ∈ T.map (·.1), P u := fun u hu => by
    obtain ⟨x, hx, rfl⟩ := List.mem_map.mp hu
    exact h x hx
  split at hp
  · exact h' _ hp
  · rcases List.mem_append.mp hp with hp | hp
    · exact h' _ hp
    · simp at hp
      rw [hp]
      exact hq
theorem look_nd {T : Tb} (h : (T.map (·.1)).Nodup) : ∀ p ∈ T, look T p.1 = some p.2 := by
  induction T with
  | nil => intro p hp; cases hp
  | cons a r ih =>
    rw [List.map_cons, List.nodup_cons] at h
    intro p hp
    unfold look
    rcases List.mem_cons.mp hp with rfl | hp
    · rw [if_pos rfl]
    · rw [if_neg fun e => h.1 (by rw [e]; exact List.mem_map_of_mem hp)]
      exact ih h.2 p hp
structure TbOk (n : Nat) (s : List Nat × Tb) : Prop where
  p : IsP n s.1
  nd : (s.2.map (·.1)).Nodup
  k : ∀ q ∈ s.2, 1 ≤ q.1.1 ∧ q.1.1 ≤ n ∧ 1 ≤ q.1.2 ∧ q.1.2 ≤ n
theorem TbOk.step {n : Nat} {s : List Nat × Tb} {x : Int} (h : TbOk n s) (hx : x ≠ 0 ∧ x.natAbs < n) : TbOk n (tbS s x) := by
  have hk := pk hx
  refine ⟨h.p.swp hk, putT_nd h.nd, putT_mem (P := fun q => 1 ≤ q.1 ∧ q.1 ≤ n ∧ 1 ≤ q.2 ∧ q.2 ≤ n) h.k ?_⟩
  have a1 := h.p.lo (x.natAbs - 1) (by omega)
  have a2 := h.p.hi (x.natAbs - 1) (by omega)
  have b1 := h.p.lo _ hk
  have b2 := h.p.hi _ hk
  unfold key
  simp only
  omega
theorem tab_gen {n : Nat} : ∀ (w : List Int) (s : List Nat × Tb), Wd n w → TbOk n s → TbOk n (w.foldl tbS s) ∧ (w.foldl tbS s).2.length ≤ s.2.length + w.length ∧ (w.foldl tbS s).1 = w.foldl (fun p x => swp p (x.natAbs - 1)) s.1
  | [], s, _, h => ⟨h, Nat.le_refl _, rfl⟩
  | x :: w, s, hw, h => by
    obtain ⟨h1, h2, h3⟩ := tab_gen w (tbS s x) (fun y hy => hw y (List.mem_cons_of_mem _ hy)) (h.step (hw x List.mem_cons_self))
    refine ⟨h1, ?_, h3⟩
    have := putT_len s.2 (key s.1 (x.natAbs - 1)) ((look s.2 (key s.1 (x.natAbs - 1))).getD 0 + sg x)
    have e : (tbS s x).2.length = (putT s.2 (key s.1 (x.natAbs - 1)) ((look s.2 (key s.1 (x.natAbs - 1))).getD 0 + sg x)).length := rfl
    rw [List.foldl_cons, List.length_cons]
    omega
theorem tab_ok {n : Nat} {w : List Int} (h : Wd n w) : TbOk n (tab n w) := (tab_gen w _ h ⟨isP_id n, by simp, fun q hq => (by cases hq)⟩).1
theorem tab_len {n : Nat} {w : List Int} (h : Wd n w) : (tab n w).2.length ≤ w.length := by
  have := (tab_gen (n := n) w (List.range' 1 n, []) h ⟨isP_id n, by simp, fun q hq => (by cases hq)⟩).2.1
  unfold tab
  simpa using this
end Pm

namespace Vl
open PySem PySem.Spec PyProof.Rows L2
theorem pyEq_same {d : D} (h : eqOk d = true) : pyEq d d = true := by
  unfold eqOk at h
  rw [Bool.and_eq_true] at h
  exact PySem.SeqAt.eqv_refl _ (D.canLay h.1)
theorem gNe_same {d : D} (h : eqOk d = true) : gNe d d = some (.bl false) := by
  unfold gNe
  rw [h, pyEq_same h]
  rfl
theorem gEq_same {d : D} (h : eqOk d = true) : gEq d d = some (.bl true) := by
  unfold gEq
  rw [h, pyEq_same h]
  rfl
section
variable {ρ ρ1 ρ2 : Vl.Env} {ds : List D}
theorem un_ok {g : D → Option D} {f : M D} {d r : D} (h : f ρ = some (d, ρ1)) (h2 : g d = some r) : fUn g f ρ = some (r, ρ1) := by
  show (f ρ).bind _ = _
  rw [h, Option.bind_some, h2]
  rfl
theorem rev_it {f : M D} {d : D} (h : f ρ = some (d, ρ1)) (h2 : itemsOf d = some ds) : iRev f ρ = some (ds.reverse, ρ1) := by
  show (f ρ).bind _ = _
  rw [h, Option.bind_some, h2]
  rfl
theorem ifx_t {c : M Bool} {a b : M D} (h : c ρ = some (true, ρ1)) : fIf c a b ρ = a ρ1 := by
  show (c ρ).bind _ = _
  rw [h]
  rfl
theorem ifx_f {c : M Bool} {a b : M D} (h : c ρ = some (false, ρ1)) : fIf c a b ρ = b ρ1 := by
  show (c ρ).bind _ = _
  rw [h]
  rfl
theorem or_f {a b : M Bool} (h : a ρ = some (false, ρ1)) : fOr a b ρ = b ρ1 := by
  show (a ρ).bind _ = _
  rw [h]
  rfl
theorem and_t {a b : M Bool} (h : a ρ = some (true, ρ1)) : fAnd a b ρ = b ρ1 := by
  show (a ρ).bind _ = _
  rw [h]
  rfl
theorem and_f {a b : M Bool} (h : a ρ = some (false, ρ1)) : fAnd a b ρ = some (false, ρ1) := by
  show (a ρ).bind _ = _
  rw [h]
  rfl
theorem or_t {a b : M Bool} (h : a ρ = some (true, ρ1)) : fOr a b ρ = some (true, ρ1) := by
  show (a ρ).bind _ = _
  rw [h]
  rfl
theorem andv_t {a b : M D} (h : a ρ = some (.bl true, ρ1)) : fAndV a b ρ = b ρ1 := by
  show (fB a ρ).bind _ = _
  rw [b_ok h]
  rfl
theorem tuprev_ok {f : M D} {d : D} (h : f ρ = some (d, ρ1)) (h2 : itemsOf d = some ds) : fTupRev f ρ = some (.tup ds.reverse, ρ1) := by
  show (f ρ).bind _ = _
  rw [h, Option.bind_some, h2]
  rfl
theorem revS_ok {f : M D} {d r : D} (h : f ρ = some (d, ρ1)) (h2 : gRevS d = some r) : fRevS f ρ = some (r, ρ1) := by
  show (f ρ).bind _ = _
  rw [h, Option.bind_some, h2]
  rfl
theorem fz_ok {f : M D} {d : D} (h : f ρ = some (d, ρ1)) : fFz f ρ = some (d.frz, ρ1) := by
  show (f ρ).bind _ = _
  rw [h]
  rfl
theorem ali_ok {i : Nat} {d : D} (h : Env.at ρ i = some d) (hn : d.noOwn = true) : fAli i ρ = some (d, ρ) := by
  show (Env.at ρ i).bind _ = _
  rw [h, Option.bind_some, if_pos hn]
end
end Vl
namespace G09
open PySem PySem.Spec PyProof.Rows L2 Vl Pm
def brD (n : Int) (l : List Int) : D := .tup [.int n, .tup (l.map D.int)]
theorem no_t (l : List Int) : (D.tup (l.map D.int)).noOwn = true := noOwnL_ints l
theorem frz_t (l : List Int) : (D.tup (l.map D.int)).frz = .tup (l.map D.int) := congrArg D.tup (frzL_ints l)
theorem no_br (n : Int) (l : List Int) : (brD n l).noOwn = true := noL2 rfl (no_t l)
theorem frz_br (n : Int) (l : List Int) : (brD n l).frz = brD n l := congrArg D.tup (frzL2 rfl (frz_t l))
theorem items_t (l : List Int) : itemsOf (.tup (l.map D.int)) = some (l.map D.int) := if_pos (noOwnL_ints l)
theorem items_l (o : Bool) (l : List Int) : itemsOf (.lst o (l.map D.int)) = some (l.map D.int) := if_pos (noOwnL_ints l)
theorem eqOk_br (n : Int) (l : List Int) : eqOk (brD n l) = true := by
  unfold eqOk brD
  simp [D.eok, D.eokL, D.dep, D.depL, eokL_ints, depL_ints]
theorem eqOk_t (l : List Int) : eqOk (.tup (l.map D.int)) = true := by
  unfold eqOk
  simp [D.eok, D.dep, eokL_ints, depL_ints]
theorem gTuple_z (o : Bool) (l : List Int) : gTuple [.lst o (l.map D.int)] = some (.tup (l.map D.int)) := if_pos (noOwnL_ints l)
theorem gAdd_t {a b : List Int} (h : a.length + b.length ≤ 100000) : gAdd (.tup (a.map D.int)) (.tup (b.map D.int)) = some (.tup ((a ++ b).map D.int)) := by
  show (if (szOk ((a.map D.int).length + (b.map D.int).length) && D.noOwnL _ && D.noOwnL _) = true then some (D.tup (a.map D.int ++ b.map D.int)) else none) = _
  rw [List.length_map, List.length_map, show szOk (a.length + b.length) = true from decide_eq_true h, noOwnL_ints, noOwnL_ints, if_pos (by rfl), List.map_append]
theorem gAdd_l {o o' : Bool} {a b : List Int} (h : a.length + b.length ≤ 100000) : gAdd (.lst o (a.map D.int)) (.lst o' (b.map D.int)) = some (.lst true ((a ++ b).map D.int)) := by
  show (if (szOk ((a.map D.int).length + (b.map D.int).length) && D.noOwnL _ && D.noOwnL _) = true then some (D.lst true (a.map D.int ++ b.map D.int)) else none) = _
  rw [List.length_map, List.length_map, show szOk (a.length + b.length) = true from decide_eq_true h, noOwnL_ints, noOwnL_ints, if_pos (by rfl), List.map_append]
theorem comp_z {i : Nat} {fi : M (List D)} {fe : M D} {ρ0 ρ1 : Vl.Env} {l : List Int} (h : Int → Int) (hi : fi ρ0 = some (l.map D.int, ρ1)) (ho : ownOk ρ1 [i] = true)
    (he : ∀ x ∈ l, fe (ρ1.set i (some (.int x))) = some (.int (h x), ρ1.set i (some (.int x)))) (hl : l.length ≤ 100000) : fComp [i] fi (gNm i) fYes fe ρ0 = some (.lst true ((l.map h).map D.int), ρ1) := by
  have e := fComp_all (i := i) (fe := fe) (fun d => match d with | .int z => .int (h z) | _ => d) hi ho (fun d hd => by
    obtain ⟨x, hx, rfl⟩ := List.mem_map.mp hd
    exact he x hx) (by rw [List.length_map]; exact hl)
  rw [e, List.map_map, List.map_map]
  rfl
/-- the tuple of a comprehension -/
theorem comp_t {i : Nat} {fi : M (List D)} {fe : M D} {ρ0 ρ1 : Vl.Env} {l m : List Int} (h : Int → Int) (hi : fi ρ0 = some (l.map D.int, ρ1)) (ho : ownOk ρ1 [i] = true)
    (he : ∀ x ∈ l, fe (ρ1.set i (some (.int x))) = some (.int (h x), ρ1.set i (some (.int x)))) (hl : l.length ≤ 100000) (hm : l.map h = m) : fCl gTuple (fCons [] [] (fComp [i] fi (gNm i) fYes fe) fNil) ρ0 = some (.tup (m.map D.int), ρ1) := by
  subst hm
  exact cl_ok (cons_ok (comp_z h hi ho he hl) rfl rfl) (gTuple_z _ _)
theorem for_pre {i : Nat} {body : MS} (l : List Int) (σ : List Int → Vl.Env) (x : Option D) (h : ∀ p a q, l = p ++ a :: q → ∃ y, body ((σ p).set i (some (.int a))) = some (.nx ((σ (p ++ [a])).set i y))) : ∃ y, forL (gNm i) body (l.map D.int) ((σ []).set i x) = some (.nx ((σ l).set i y)) := by
  obtain ⟨y, hy⟩ := for_seq (i := i) (body := body) (l.map D.int) (fun k => σ (l.take k)) x fun k d hd => by
    rw [List.getElem?_map] at hd
    obtain ⟨a, h1, rfl⟩ := Option.map_eq_some_iff.mp hd
    have hk := (List.getElem?_eq_some_iff.mp h1).1
    have e : l = l.take k ++ a :: l.drop (k + 1) := by
      rw [← (List.getElem?_eq_some_iff.mp h1).2, ← List.drop_eq_getElem_cons hk, List.take_append_drop]
    obtain ⟨y, hy⟩ := h _ _ _ e
    refine ⟨y, ?_⟩
    rw [hy]
    have e2 : l.take (k + 1) = l.take k ++ [a] := by
      rw [List.take_succ, h1]
      rfl
    rw [e2]
  refine ⟨y, ?_⟩
  have e3 : l.take (l.map D.int).length = l := by rw [List.length_map, List.take_length]
  rw [e3] at hy
  exact hy
theorem cMul_l {i j : Int} (h : i.natAbs < 2 ^ 63) : cMul i j = true := by simp [cMul, h]
theorem sfor_pre {i : Nat} {body : MS} {fi : M (List D)} {ρ0 ρ1 : Vl.Env} (l : List Int) (σ : List Int → Vl.Env) (x : Option D) (hi : fi ρ0 = some (l.map D.int, ρ1)) (h0 : (σ []).set i x = ρ1) (h : ∀ p a q, l = p ++ a :: q → ∃ y, body ((σ p).set i (some (.int a))) = some (.nx ((σ (p ++ [a])).set i y))) : ∃ y, sFor fi (gNm i) body ρ0 = some (.nx ((σ l).set i y)) := by
  obtain ⟨y, hy⟩ := for_pre l σ x h
  rw [h0] at hy
  exact ⟨y, (for_it hi).trans hy⟩
theorem sfor_rg {i n : Nat} {body : MS} {fi : M (List D)} {ρ0 ρ1 : Vl.Env} (σ : Nat → Vl.Env) (x : Option D) (hi : fi ρ0 = some (nsD (List.range n), ρ1)) (h0 : (σ 0).set i x = ρ1) (h : ∀ k, k < n → ∃ y, body ((σ k).set i (some (.int (k : Nat)))) = some (.nx ((σ (k + 1)).set i y))) : ∃ y, sFor fi (gNm i) body ρ0 = some (.nx ((σ n).set i y)) := by
  obtain ⟨y, hy⟩ := for_rg σ x h
  rw [h0] at hy
  exact ⟨y, (for_it hi).trans hy⟩
/-! ### signs -/
theorem signum_ok {x : Int} (h : x ≠ 0) : F_signum [.int x] = some (.int (sg x), []) := by
  have e1 : sIf (fB (fOp [0] [] gEq (fVar 0) (fC (.int 0)))) (sRet (fC (.int 0))) sNil [some (.int x)] = some (.nx [some (.int x)]) := by
    rw [if_f (b_ok (op_ok rfl rfl rfl ((gEq_i x 0).trans (by rw [decide_eq_false h]))))]
    rfl
  unfold F_signum sg
  refine run_at (ρ0 := [some (.int x)]) (ρ := [some (.int x)]) rfl rfl ?_
  rw [seq_nx e1]
  refine ret_ok ?_
  by_cases c : x < 0
  · rw [if_pos c, ifx_f (b_ok (op_ok rfl rfl rfl ((gGt_i x 0).trans (by rw [decide_eq_false (by omega)]))))]
    rfl
  · rw [if_neg c, ifx_t (b_ok (op_ok rfl rfl rfl ((gGt_i x 0).trans (by rw [decide_eq_true (by omega)]))))]
    rfl
theorem lsign_ok (x : Int) : F__law_sign [.int x] = some (.int (sg x), []) := by
  have e : ∀ b : Bool, b = decide (x < 0) → gSub (.int 1) (.int (2 * (if b then 1 else 0))) = some (.int (sg x)) := fun b hb => by
    subst hb
    unfold sg
    by_cases c : x < 0 <;> simp [c]
  unfold F__law_sign
  refine run_at (ρ0 := [some (.int x)]) (ρ := [some (.int x)]) rfl rfl (ret_ok (op_ok rfl (op_ok rfl (cl_ok (cons_ok (op_ok rfl rfl rfl (gLt_i x 0)) rfl rfl) rfl) rfl (gMul_i (cMul_r (by split <;> decide)))) rfl (e _ rfl)))
theorem call1 {F : FD} {ρ : Vl.Env} {i : Nat} {x : Int} {r : D} (h : Env.at ρ i = some (.int x)) (hF : F [.int x] = some (r, [])) : fCall F (fCons [i] [] (fVar i) fNil) ρ = some (r, ρ) :=
  call_ok (cons_ok (show fVar i ρ = some (.int x, ρ) by show (Env.at ρ i).bind _ = _; rw [h]; rfl) rfl (by unfold safe; simp)) rfl rfl hF
theorem abs1 {ρ : Vl.Env} {i : Nat} {x : Int} (h : Env.at ρ i = some (.int x)) : fCl gAbs (fCons [i] [] (fVar i) fNil) ρ = some (.int (x.natAbs : Nat), ρ) := by
  refine cl_ok (cons_ok (show fVar i ρ = some (.int x, ρ) by show (Env.at ρ i).bind _ = _; rw [h]; rfl) rfl (by unfold safe; simp)) ?_
  show some (D.int (if x < 0 then -x else x)) = _
  congr 2
  split <;> omega
/-! ### the small functions -/
theorem joined_ok {n n' : Int} {a b : List Int} (h : a.length + b.length ≤ 100000) : F_joined [brD n a, brD n' b] = some (brD n (a ++ b), []) :=
  run_at (ρ0 := [some (brD n a), some (brD n' b)]) (ρ := [some (brD n a), some (brD n' b)]) rfl rfl (ret_ok (tup_ok (cons_ok (chk_ok (ixt_ok rfl rfl rfl rfl) rfl) (cons_ok (op_ok (ixt_ok rfl rfl rfl rfl) (ixt_ok rfl rfl rfl rfl) rfl (gAdd_t h)) rfl rfl) rfl) rfl))
theorem undone_ok {n : Int} {a : List Int} (h : a.length ≤ 100000) : F_undone [brD n a] = some (brD n (a.reverse.map fun x => -x), []) := by
  unfold F_undone
  refine run_at (ρ0 := [some (brD n a), none]) (ρ := [some (brD n a), none]) rfl rfl (ret_ok (tup_ok (cons_ok (chk_ok (ixt_ok rfl rfl rfl rfl) rfl) (cons_ok (comp_t (l := a.reverse) (fun x => -x) ?_ rfl (fun x _ => un_ok rfl rfl) (by rw [List.length_reverse]; exact h) rfl) rfl rfl) rfl) rfl))
  rw [rev_it (ixt_ok rfl rfl rfl rfl) (items_t a), List.map_reverse]
theorem mirrored_ok {n : Int} {a : List Int} (h : a.length ≤ 100000) : F_mirrored [brD n a] = some (brD n (a.map fun x => -x), []) := by
  unfold F_mirrored
  exact run_at (ρ0 := [some (brD n a), none]) (ρ := [some (brD n a), none]) rfl rfl (ret_ok (tup_ok (cons_ok (chk_ok (ixt_ok rfl rfl rfl rfl) rfl) (cons_ok (comp_t (l := a) (fun x => -x) (seq_it (ixt_ok rfl rfl rfl rfl) (items_t a)) rfl (fun x _ => un_ok rfl rfl) h rfl) rfl rfl) rfl) rfl))
theorem turned_ok {n : Int} {a : List Int} (h : a.length ≤ 100000) (h0 : ∀ x ∈ a, x ≠ 0) : F_turned [brD n a] = some (brD n (a.map fun x => sg x * (n - (x.natAbs : Nat))), []) := by
  unfold F_turned
  refine run_at (ρ0 := [some (brD n a), none, none]) (ρ := [some (brD n a), some (.int n), none]) rfl rfl ?_
  rw [seq_nx (ρ' := [some (brD n a), some (.int n), none]) (set_to (chk_ok (ixt_ok rfl rfl rfl rfl) rfl) rfl)]
  refine ret_ok (tup_ok (cons_ok (ali_ok rfl rfl) (cons_ok (comp_t (l := a) (fun x => sg x * (n - (x.natAbs : Nat))) (seq_it (ixt_ok rfl rfl rfl rfl) (items_t a)) rfl (fun x hx => ?_) h rfl) rfl rfl) rfl) rfl)
  exact op_ok (call1 rfl (signum_ok (h0 x hx))) (op_ok rfl (abs1 rfl) rfl (gSub_i _ _)) rfl (gMul_i (cMul_l (by unfold sg; split <;> decide)))
theorem from_below_ok {n : Int} {a : List Int} : F_from_below [brD n a] = some (brD n a.reverse, []) := by
  unfold F_from_below brD
  rw [List.map_reverse]
  exact run_at (ρ0 := [some (brD n a)]) (ρ := [some (brD n a)]) rfl rfl (ret_ok (tup_ok (cons_ok (chk_ok (ixt_ok rfl rfl rfl rfl) rfl) (cons_ok (tuprev_ok (ixt_ok rfl rfl rfl rfl) (items_t a)) rfl rfl) rfl) rfl))
theorem trivial_ok (n : Int) : F_trivial [.int n] = some (brD n [], []) := rfl
theorem widened_ok {n m : Int} {a : List Int} : F_widened [brD n a, .int m] = some (brD m a, []) :=
  run_at (ρ0 := [some (brD n a), some (.int m)]) (ρ := [some (brD n a), some (.int m)]) rfl rfl (ret_ok (tup_ok (cons_ok (ali_ok rfl rfl) (cons_ok (chk_ok (ixt_ok rfl rfl rfl rfl) (no_t a)) rfl rfl) rfl) rfl))
theorem shifted_ok {n c : Int} {a : List Int} (h : a.length ≤ 100000) (h0 : ∀ x ∈ a, x ≠ 0) : F_shifted [brD n a, .int c] = some (brD (n + c) (a.map fun x => x + c * sg x), []) := by
  unfold F_shifted
  refine run_at (ρ0 := [some (brD n a), some (.int c), none, none]) (ρ := [some (brD n a), some (.int c), some (.lst true ((a.map fun x => x + c * sg x).map D.int)), none]) rfl rfl ?_
  rw [seq_nx (ρ' := [some (brD n a), some (.int c), some (.lst true ((a.map fun x => x + c * sg x).map D.int)), none]) (set_to (comp_z (ρ1 := [some (brD n a), some (.int c), none, none]) (l := a) (fun x => x + c * sg x) (seq_it (ixt_ok rfl rfl rfl rfl) (items_t a)) rfl (fun x hx => ?_) h) rfl)]
  · exact ret_ok (tup_ok (cons_ok (op_ok (ixt_ok rfl rfl rfl rfl) rfl rfl (gAdd_i _ _)) (cons_ok (cl_ok (cons_ok rfl rfl rfl) (gTuple_z _ _)) rfl rfl) rfl) rfl)
  · have hx := h0 x hx
    unfold sg
    by_cases c0 : x < 0
    · rw [if_pos c0, ifx_f (b_ok (op_ok rfl rfl rfl ((gGt_i x 0).trans (by rw [decide_eq_false (by omega)]))))]
      rw [op_ok rfl rfl rfl (gSub_i _ _)]
      rw [show x + c * -1 = x - c by omega]
    · rw [if_neg c0, ifx_t (b_ok (op_ok rfl rfl rfl ((gGt_i x 0).trans (by rw [decide_eq_true (by omega)]))))]
      rw [op_ok rfl rfl rfl (gAdd_i _ _)]
      rw [show x + c * 1 = x + c by omega]
theorem beside_ok {n m : Int} {a b : List Int} (h : a.length + b.length ≤ 100000) (h0 : ∀ x ∈ b, x ≠ 0) : F_beside [brD n a, brD m b] = some (brD (n + m) (a ++ b.map fun x => x + n * sg x), []) := by
  unfold F_beside
  refine run_at (ρ0 := [some (brD n a), some (brD m b), none]) (ρ := [some (brD n a), some (brD m b), some (.int (n + m))]) rfl rfl ?_
  rw [seq_nx (ρ' := [some (brD n a), some (brD m b), some (.int (n + m))]) (set_to (op_ok (ixt_ok rfl rfl rfl rfl) (ixt_ok rfl rfl rfl rfl) rfl (gAdd_i _ _)) rfl)]
  exact ret_ok (tup_ok (cons_ok (ali_ok rfl rfl) (cons_ok (op_ok (ixt_ok rfl rfl rfl rfl) (ixt_ok (l := [.int (m + n), .tup ((b.map fun x => x + n * sg x).map D.int)]) (call_ok (ds := [brD m b, .int n]) (cons_ok rfl (cons_ok (ixt_ok rfl rfl rfl rfl) rfl rfl) rfl) (frzL2 (frz_br m b) rfl) (noL2 (no_br m b) rfl) (shifted_ok (by omega) h0)) rfl rfl rfl) rfl (gAdd_t (by rw [List.length_map]; exact h))) rfl rfl) rfl) rfl)
theorem exponent_ok {n : Int} {a : List Int} (h : a.length ≤ 100000) (h0 : ∀ x ∈ a, x ≠ 0) : F_exponent_sum [brD n a] = some (.int (a.map sg).sum, []) := by
  have e : ints? ((a.map sg).map D.int) = some (a.map sg) := by
    generalize a.map sg = l
    induction l with
    | nil => rfl
    | cons x r ih =>
      show (ints? (r.map D.int)).bind _ = _
      rw [ih]
      rfl
  unfold F_exponent_sum
  refine run_at (ρ0 := [some (brD n a), none]) (ρ := [some (brD n a), none]) rfl rfl (ret_ok (cl_ok (cons_ok (comp_z (l := a) sg (seq_it (ixt_ok rfl rfl rfl rfl) (items_t a)) rfl (fun x hx => call1 rfl (signum_ok (h0 x hx))) h) rfl rfl) ?_))
  show (ints? _).bind _ = _
  rw [e]
  rfl
theorem law_truth_ok (b : Bool) : F__law_truth [.bl b, .bl b] = some (.bl true, []) := by cases b <;> rfl
end G09

namespace Pm
/-! ### circles -/
def it (a : List Nat) (s : Nat) : Nat → Nat
  | 0 => s
  | m + 1 => ix a (it a s m - 1)
section
variable {n : Nat} {a : List Nat} (h : IsP n a)
theorem it_add (a : List Nat) (s m : Nat) : ∀ d, it a s (m + d) = it a (it a s m) d
  | 0 => rfl
  | d + 1 => by
    show ix a (it a s (m + d) - 1) = ix a (it a (it a s m) d - 1)
    rw [it_add a s m d]
include h
theorem it_rg {s : Nat} (h1 : 1 ≤ s) (h2 : s ≤ n) : ∀ m, 1 ≤ it a s m ∧ it a s m ≤ n
  | 0 => ⟨h1, h2⟩
  | m + 1 => by
    have := it_rg h1 h2 m
    exact ⟨h.lo _ (by omega), h.hi _ (by omega)⟩
theorem it_back {s : Nat} (h1 : 1 ≤ s) (h2 : s ≤ n) : ∀ i d, it a s i = it a s (i + d) → s = it a s d
  | 0, d, e => by rw [Nat.zero_add] at e; exact e
  | i + 1, d, e => by
    refine it_back h1 h2 i d ?_
    have a1 := it_rg h h1 h2 i
    have a2 := it_rg h h1 h2 (i + d)
    have e : ix a (it a s i - 1) = ix a (it a s (i + d) - 1) := by
      have : i + 1 + d = (i + d) + 1 := by omega
      rw [this] at e
      exact e
    have := h.inj _ _ (by omega) (by omega) e
    omega
theorem least_ex {P : Nat → Prop} : ∀ m, P m → ∃ p, P p ∧ p ≤ m ∧ ∀ q, q < p → ¬ P q := fun m => by
  induction m using Nat.strongRecOn with
  | ind m ih =>
    intro hm
    by_cases c : ∃ q, q < m ∧ P q
    · obtain ⟨q, h1, h2⟩ := c
      obtain ⟨p, a1, a2, a3⟩ := ih q h1 h2
      exact ⟨p, a1, by omega, a3⟩
    · exact ⟨m, hm, Nat.le_refl _, fun q hq hp => c ⟨q, hq, hp⟩⟩
theorem per_ex {s : Nat} (h1 : 1 ≤ s) (h2 : s ≤ n) : ∃ p, 1 ≤ p ∧ p ≤ n ∧ it a s p = s ∧ ∀ q, 1 ≤ q → q < p → it a s q ≠ s := by
  have ex : ∃ q, q < n ∧ it a s (q + 1) = s := by
    apply Classical.byContradiction
    intro c
    have c' : ∀ q, q < n → it a s (q + 1) ≠ s := fun q hq e => c ⟨q, hq, e⟩
    have nd : ((List.range (n + 1)).map (it a s)).Nodup := by
      rw [List.nodup_iff_pairwise_ne, List.pairwise_map]
      refine List.Pairwise.imp_of_mem ?_ (List.pairwise_lt_range (n := n + 1))
      intro i j hi hj hij e
      rw [List.mem_range] at hi hj
      have := it_back h h1 h2 i (j - i) (by rw [show i + (j - i) = j by omega]; exact e)
      exact c' (j - i - 1) (by omega) (by rw [show j - i - 1 + 1 = j - i by omega]; exact this.symm)
    have := len_le (m := List.range' 1 n) nd fun x hx => by
      obtain ⟨m, _, rfl⟩ := List.mem_map.mp hx
      have := it_rg h h1 h2 m
      rw [List.mem_range'_1]
      omega
    rw [List.length_map, List.length_range, List.length_range'] at this
    omega
  obtain ⟨q, hq, e⟩ := ex
  obtain ⟨p, b1, b2, b3⟩ := least_ex h (P := fun q => it a s (q + 1) = s) q e
  refine ⟨p + 1, by omega, by omega, b1, fun r r1 r2 r3 => b3 (r - 1) (by omega) ?_⟩
  rw [show r - 1 + 1 = r by omega]
  exact r3
end
open Classical in
noncomputable def per (n : Nat) (a : List Nat) (s : Nat) : Nat := if h : ∃ p, 1 ≤ p ∧ p ≤ n ∧ it a s p = s ∧ ∀ q, 1 ≤ q → q < p → it a s q ≠ s then Classical.choose h else 0
theorem per_ok {n : Nat} {a : List Nat} (h : IsP n a) {s : Nat} (h1 : 1 ≤ s) (h2 : s ≤ n) : 1 ≤ per n a s ∧ per n a s ≤ n ∧ it a s (per n a s) = s ∧ ∀ q, 1 ≤ q → q < per n a s → it a s q ≠ s := by
  have e := per_ex h h1 h2
  unfold per
  rw [dif_pos e]
  exact Classical.choose_spec e
noncomputable def orb (n : Nat) (a : List Nat) (s : Nat) : List Nat := (List.range (per n a s)).map (it a s)
section
variable {n : Nat} {a : List Nat} (h : IsP n a) {s : Nat} (h1 : 1 ≤ s) (h2 : s ≤ n)
include h h1 h2
theorem orb_any : ∀ m, it a s m ∈ orb n a s := fun m => by
  obtain ⟨p1, p2, p3, p4⟩ := per_ok h h1 h2
  induction m using Nat.strongRecOn with
  | ind m ih =>
    by_cases c : m < per n a s
    · exact List.mem_map.mpr ⟨m, List.mem_range.mpr c, rfl⟩
    · have e : it a s m = it a s (m - per n a s) := by
        rw [show m = per n a s + (m - per n a s) by omega, it_add, p3, show per n a s + (m - per n a s) - per n a s = m - per n a s by omega]
      rw [e]
      exact ih _ (by omega)
theorem orb_rg {x : Nat} (hx : x ∈ orb n a s) : 1 ≤ x ∧ x ≤ n := by
  obtain ⟨m, _, rfl⟩ := List.mem_map.mp hx
  exact it_rg h h1 h2 m
theorem orb_sym {x : Nat} (hx : x ∈ orb n a s) : s ∈ orb n a x := by
  obtain ⟨r1, r2⟩ := orb_rg h h1 h2 hx
  obtain ⟨m, hm, rfl⟩ := List.mem_map.mp hx
  rw [List.mem_range] at hm
  obtain ⟨p1, p2, p3, p4⟩ := per_ok h h1 h2
  have := orb_any h r1 r2 (per n a s - m)
  rwa [← it_add, show m + (per n a s - m) = per n a s by omega, p3] at this
theorem orb_tr {x y : Nat} (hx : x ∈ orb n a s) (hy : y ∈ orb n a x) : y ∈ orb n a s := by
  obtain ⟨m, hm, rfl⟩ := List.mem_map.mp hx
  obtain ⟨k, hk, rfl⟩ := List.mem_map.mp hy
  rw [← it_add]
  exact orb_any h h1 h2 _
theorem orb_self : s ∈ orb n a s := orb_any h h1 h2 0
theorem it_inj {i j : Nat} (hi : i < j) (hj : j < per n a s) : it a s i ≠ it a s j := fun e => by
  obtain ⟨p1, p2, p3, p4⟩ := per_ok h h1 h2
  have := it_back h h1 h2 i (j - i) (by rw [show i + (j - i) = j by omega]; exact e)
  exact p4 (j - i) (by omega) (by omega) this.symm
theorem orb_nd : (orb n a s).Nodup := by
  unfold orb
  rw [List.nodup_iff_pairwise_ne, List.pairwise_map]
  refine List.Pairwise.imp_of_mem ?_ (List.pairwise_lt_range (n := per n a s))
  intro i j hi hj hij
  exact it_inj h h1 h2 hij (List.mem_range.mp hj)
theorem orb_len : (orb n a s).length ≤ n := by
  unfold orb
  rw [List.length_map, List.length_range]
  exact (per_ok h h1 h2).2.1
end
/-- the least of its circle -/
def lst (n : Nat) (a : List Nat) (s : Nat) : Prop := ∀ x ∈ orb n a s, s ≤ x
open Classical in
noncomputable def pts (n : Nat) (a : List Nat) (k : Nat) : List (List Nat) := ((List.range' 1 k).filter fun s => decide (lst n a s)).map (orb n a)
section
variable {n : Nat} {a : List Nat} (h : IsP n a)
open Classical in
theorem pts_succ (n : Nat) (a : List Nat) (k : Nat) : pts n a (k + 1) = if lst n a (k + 1) then pts n a k ++ [orb n a (k + 1)] else pts n a k := by
  unfold pts
  rw [List.range'_1_concat, List.filter_append, List.map_append, Nat.add_comm 1 k]
  by_cases c : lst n a (k + 1)
  · rw [if_pos c, List.filter_cons, if_pos (decide_eq_true c)]
    rfl
  · rw [if_neg c, List.filter_cons, if_neg (by rw [decide_eq_false c]; simp)]
    simp
open Classical in
theorem mem_pts {n : Nat} {a : List Nat} {k : Nat} {c : List Nat} : c ∈ pts n a k ↔ ∃ s, 1 ≤ s ∧ s ≤ k ∧ lst n a s ∧ c = orb n a s := by
  unfold pts
  rw [List.mem_map]
  constructor
  · rintro ⟨s, h1, rfl⟩
    obtain ⟨h2, h3⟩ := List.mem_filter.mp h1
    rw [List.mem_range'_1] at h2
    exact ⟨s, by omega, by omega, of_decide_eq_true h3, rfl⟩
  · rintro ⟨s, h1, h2, h3, rfl⟩
    exact ⟨s, List.mem_filter.mpr ⟨by rw [List.mem_range'_1]; omega, decide_eq_true h3⟩, rfl⟩
include h
theorem lst_ex {s : Nat} (h1 : 1 ≤ s) (h2 : s ≤ n) : ∃ t, 1 ≤ t ∧ t ≤ s ∧ lst n a t ∧ s ∈ orb n a t := by
  obtain ⟨t, t1, t2, t3⟩ := least_ex h (P := fun t => t ∈ orb n a s) s (orb_self h h1 h2)
  obtain ⟨r1, r2⟩ := orb_rg h h1 h2 t1
  exact ⟨t, r1, t2, fun x hx => Nat.le_of_not_lt fun c => t3 x c (orb_tr h h1 h2 t1 hx), orb_sym h h1 h2 t1⟩
theorem lst_uniq {s t x : Nat} (s1 : 1 ≤ s) (s2 : s ≤ n) (t1 : 1 ≤ t) (t2 : t ≤ n) (ls : lst n a s) (lt : lst n a t) (xs : x ∈ orb n a s) (xt : x ∈ orb n a t) : s = t := by
  obtain ⟨x1, x2⟩ := orb_rg h s1 s2 xs
  have a1 := ls t (orb_tr h s1 s2 xs (orb_sym h t1 t2 xt))
  have a2 := lt s (orb_tr h t1 t2 xt (orb_sym h s1 s2 xs))
  omega
/-- seen already, or the least -/
theorem seen_iff {k : Nat} (hk : k < n) : k + 1 ∈ (pts n a k).flatten ↔ ¬ lst n a (k + 1) := by
  rw [List.mem_flatten]
  constructor
  · rintro ⟨c, hc, hx⟩ hl
    obtain ⟨s, s1, s2, s3, rfl⟩ := mem_pts.mp hc
    have := lst_uniq h s1 (by omega) (by omega) (by omega) s3 hl hx (orb_self h (by omega) (by omega))
    omega
  · intro hl
    obtain ⟨t, t1, t2, t3, t4⟩ := lst_ex h (s := k + 1) (by omega) (by omega)
    have : t ≠ k + 1 := fun e => hl (by rw [e] at t3; exact t3)
    exact ⟨_, mem_pts.mpr ⟨t, t1, by omega, t3, rfl⟩, t4⟩
theorem fresh {k : Nat} (hk : k < n) (hl : lst n a (k + 1)) {x : Nat} (hx : x ∈ orb n a (k + 1)) : x ∉ (pts n a k).flatten := fun c => by
  obtain ⟨c, hc, hx2⟩ := List.mem_flatten.mp c
  obtain ⟨s, s1, s2, s3, rfl⟩ := mem_pts.mp hc
  have := lst_uniq h s1 (by omega) (by omega) (by omega) s3 hl hx2 hx
  omega
theorem cover {v : Nat} (h1 : 1 ≤ v) (h2 : v ≤ n) : v ∈ (pts n a n).flatten := by
  obtain ⟨t, t1, t2, t3, t4⟩ := lst_ex h h1 h2
  exact List.mem_flatten.mpr ⟨_, mem_pts.mpr ⟨t, t1, by omega, t3, rfl⟩, t4⟩
open Classical in
theorem pts_nd : ∀ k, k ≤ n → ((pts n a k).flatten).Nodup
  | 0, _ => by simp [pts]
  | k + 1, hk => by
    rw [pts_succ]
    split
    · rename_i hl
      rw [List.flatten_append, List.nodup_append]
      refine ⟨pts_nd k (by omega), ?_, fun x hx y hy e => ?_⟩
      · simp
        exact orb_nd h (by omega) (by omega)
      · simp at hy
        subst e
        exact fresh h (by omega) hl hy hx
    · exact pts_nd k (by omega)
theorem pts_len (k : Nat) : (pts n a k).length ≤ k := by
  unfold pts
  rw [List.length_map]
  refine Nat.le_trans (List.length_filter_le _ _) ?_
  rw [List.length_range']
  exact Nat.le_refl _
theorem pts_ne {c : List Nat} {k : Nat} (hk : k ≤ n) (hc : c ∈ pts n a k) : ∃ v, v ∈ c := by
  obtain ⟨s, s1, s2, s3, rfl⟩ := mem_pts.mp hc
  exact ⟨s, orb_self h s1 (by omega)⟩
theorem pts_rg {c : List Nat} {k v : Nat} (hk : k ≤ n) (hc : c ∈ pts n a k) (hv : v ∈ c) : 1 ≤ v ∧ v ≤ n := by
  obtain ⟨s, s1, s2, s3, rfl⟩ := mem_pts.mp hc
  exact orb_rg h s1 (by omega) hv
theorem pts_cl {c : List Nat} {k : Nat} (hk : k ≤ n) (hc : c ∈ pts n a k) : c.length ≤ n := by
  obtain ⟨s, s1, s2, s3, rfl⟩ := mem_pts.mp hc
  exact orb_len h s1 (by omega)
end
/-! ### which part a strand belongs to -/
theorem part_uniq {P : List (List Nat)} (hn : P.flatten.Nodup) : ∀ {i j : Nat} {c d : List Nat} {v : Nat}, P[i]? = some c → P[j]? = some d → v ∈ c → v ∈ d → i = j := by
  induction P with
  | nil => intro i j c d v hc; simp at hc
  | cons q r ih =>
    rw [List.flatten_cons, List.nodup_append] at hn
    obtain ⟨n1, n2, n3⟩ := hn
    intro i j c d v hc hd vc vd
    cases i with
    | zero =>
      have e : q = c := by simpa using hc
      subst e
      cases j with
      | zero => rfl
      | succ j => exact absurd rfl (n3 v vc v (List.mem_flatten.mpr ⟨d, List.mem_of_getElem? (by simpa using hd), vd⟩))
    | succ i =>
      cases j with
      | zero =>
        have e : q = d := by simpa using hd
        subst e
        exact absurd rfl (n3 v vd v (List.mem_flatten.mpr ⟨c, List.mem_of_getElem? (by simpa using hc), vc⟩))
      | succ j =>
        have e1 : r[i]? = some c := by simpa using hc
        have e2 : r[j]? = some d := by simpa using hd
        exact congrArg (· + 1) (ih n2 e1 e2 vc vd)
/-- the index of the part of v -/
def hix : List (List Nat) → Nat → Nat
  | [], _ => 0
  | c :: r, v => if v ∈ c then 0 else hix r v + 1
theorem hix_at : ∀ {P : List (List Nat)} {v : Nat}, v ∈ P.flatten → ∃ c, P[hix P v]? = some c ∧ v ∈ c
  | [], v, h => by simp at h
  | c :: r, v, h => by
    unfold hix
    by_cases e : v ∈ c
    · rw [if_pos e]; exact ⟨c, rfl, e⟩
    · rw [if_neg e]
      rw [List.flatten_cons, List.mem_append] at h
      obtain ⟨d, h1, h2⟩ := hix_at (P := r) (v := v) (h.resolve_left e)
      exact ⟨d, by simpa using h1, h2⟩
theorem hix_iff {P : List (List Nat)} (hn : P.flatten.Nodup) {v i : Nat} {c : List Nat} (hv : v ∈ P.flatten) (hc : P[i]? = some c) : v ∈ c ↔ hix P v = i := by
  obtain ⟨d, h1, h2⟩ := hix_at hv
  constructor
  · intro h; exact part_uniq hn h1 hc h2 h
  · intro e
    subst e
    rw [h1] at hc
    cases hc
    exact h2
theorem hix_lt {P : List (List Nat)} {v : Nat} (hv : v ∈ P.flatten) : hix P v < P.length := by
  obtain ⟨d, h1, h2⟩ := hix_at hv
  exact (List.getElem?_eq_some_iff.mp h1).1
/-! ### linking -/
def lnk (P : List (List Nat)) (i j : Nat) (T : Tb) : Int := T.foldl (fun s q => if i ≠ j ∧ ((hix P q.1.1 = i ∧ hix P q.1.2 = j) ∨ (hix P q.1.1 = j ∧ hix P q.1.2 = i)) then s + q.2 else s) 0
theorem lnk_snoc (P : List (List Nat)) (i j : Nat) (T : Tb) (q : (Nat × Nat) × Int) : lnk P i j (T ++ [q]) = if i ≠ j ∧ ((hix P q.1.1 = i ∧ hix P q.1.2 = j) ∨ (hix P q.1.1 = j ∧ hix P q.1.2 = i)) then lnk P i j T + q.2 else lnk P i j T := by
  unfold lnk
  rw [List.foldl_append]
  rfl
end Pm

namespace Vl
open PySem PySem.Spec PyProof.Rows L2
section
variable {ρ ρ1 ρ2 : Vl.Env} {ds : List D}
theorem var_ok {i : Nat} {d : D} (h : Env.at ρ i = some d) : fVar i ρ = some (d, ρ) := by
  show (Env.at ρ i).bind _ = _
  rw [h]
  rfl
theorem at_eq {i : Nat} {d d' : D} (h : Env.at ρ i = some d) : Env.at (ρ.set i (some d')) i = some d' := by
  have hl := Env.lt (Env.at_some h)
  unfold Env.at
  rw [List.getElem?_set_self hl]
theorem at_ne {i j : Nat} {x : Option D} (h : i ≠ j) : Env.at (ρ.set i x) j = Env.at ρ j := by
  unfold Env.at
  rw [List.getElem?_set_ne h]
end
end Vl
namespace G09
open PySem PySem.Spec PyProof.Rows L2 Vl Pm
theorem IsP.rg {n : Nat} {a : List Nat} (h : IsP n a) : ∀ g ∈ a, 1 ≤ g ∧ g ≤ a.length := fun g hg => by
  obtain ⟨i, h1, rfl⟩ := mem_ix hg
  rw [h.len] at h1 ⊢
  exact ⟨h.lo i h1, h.hi i h1⟩
theorem len_call {ρ : Vl.Env} {i : Nat} {o : Bool} {l : List Nat} (h : Env.at ρ i = some (.lst o (nsD l))) : fCl gLen (fCons [i] [] (fVar i) fNil) ρ = some (.int (l.length : Nat), ρ) :=
  cl_ok (cons_ok (var_ok h) rfl (safe_r1 _ _)) (gLen_nl o l)
theorem iRg1_ns {ρ : Vl.Env} {fr : M (List D)} {j : Int} (n : Nat) (h : fr ρ = some ([.int j], ρ)) (e : j = (n : Nat)) (hn : n ≤ 1000000) : iRg1 fr ρ = some (nsD (List.range n), ρ) := by
  subst e
  rw [iRg1_ok h (okR_n (by omega) (by omega)), Int.toNat_natCast, rg0_ns]
/-- two places exchanged -/
abbrev exS (i j : Nat) : MS := (sAsg (gTp 2 (gsCons (gSt i (fOp [j] [] gSub (fVar j) (fC (.int 1)))) (gsCons (gSt i (fVar j)) gsNil))) (fTup (fCons [] [] (chk (fOp [i] [] gIxA (fVar i) (fVar j))) (fCons [] [] (chk (fOp [i] [] gIxA (fVar i) (fOp [j] [] gSub (fVar j) (fC (.int 1))))) fNil))))
theorem exch {ρ : Vl.Env} {i j : Nat} {p : List Nat} {k : Nat} (hi : Env.at ρ i = some (.lst true (nsD p))) (hj : Env.at ρ j = some (.int ((k + 1 : Nat) : Int))) (hne : i ≠ j) (hk : k + 1 < p.length) : exS i j ρ = some (.nx (ρ.set i (some (.lst true (nsD (swp p k)))))) := by
  have e4 := atN (l := p) (j := ((k + 1 : Nat) : Int)) (k + 1) rfl hk
  have e5 := atN (l := p) (j := ((k + 1 : Nat) : Int) - 1) k (by omega) (by omega)
  have e6 := gSet_ns (l := p) (j := ((k + 1 : Nat) : Int) - 1) k (ix p (k + 1)) (by omega) rfl (by omega)
  have e7 := gSet_ns (l := p.set k (ix p (k + 1))) (j := ((k + 1 : Nat) : Int)) (k + 1) (ix p k) rfl rfl (by rw [List.length_set]; omega)
  have hj' : ∀ x, Env.at (ρ.set i x) j = some (.int ((k + 1 : Nat) : Int)) := fun x => (at_ne hne).trans hj
  exact asg_ok (tup_ok (cons_ok (chk_ok (ixl_ok (var_ok hi) (var_ok hj) (safe_r1 _ _) e4) rfl) (cons_ok (chk_ok (ixl_ok (var_ok hi) (op_ok (var_ok hj) rfl (safe_r1 _ _) (gSub_i _ _)) (safe_r1 _ _) e5) rfl) rfl rfl) rfl) rfl) rfl
    (tp2_ok (st_ok hi (op_ok (var_ok hj) rfl (safe_r1 _ _) (gSub_i _ _)) hi e6 rfl) (st_ok (at_eq hi) (var_ok (hj' _)) (at_eq hi) e7 (List.set_set ..)))
theorem natAbs_k {n : Nat} {x : Int} (h : x ≠ 0 ∧ x.natAbs < n) : ∃ k, x.natAbs = k + 1 ∧ k + 1 < n := ⟨x.natAbs - 1, by omega, by omega⟩
theorem plc_snoc (n : Nat) (p : List Int) (x : Int) : plc n (p ++ [x]) = swp (plc n p) (x.natAbs - 1) := by unfold plc; rw [List.foldl_append]; rfl
theorem ord_snoc (n : Nat) (p : List Int) (x : Int) : ord n (p ++ [x]) = ordS n (ord n p) x := by unfold ord; rw [List.foldl_append]; rfl
theorem tab_snoc (n : Nat) (p : List Int) (x : Int) : tab n (p ++ [x]) = tbS (tab n p) x := by unfold tab; rw [List.foldl_append]; rfl
def lastA (p : List Int) : Option D := p.getLast?.map fun x => .int (x.natAbs : Nat)
theorem lastA_snoc (p : List Int) (x : Int) : lastA (p ++ [x]) = some (.int (x.natAbs : Nat)) := by unfold lastA; rw [List.getLast?_concat]; rfl
theorem wd_at {n : Nat} {w p q : List Int} {x : Int} (h : Wd n w) (e : w = p ++ x :: q) : (x ≠ 0 ∧ x.natAbs < n) ∧ Wd n p := by
  subst e
  exact ⟨h x (by simp), h.pre⟩
theorem br_items {n : Int} {w : List Int} {ρ : Vl.Env} {i : Nat} (h : Env.at ρ i = some (brD n w)) : iSeq (fOp [i] [] gIxA (fVar i) (fC (.int 1))) ρ = some (w.map D.int, ρ) :=
  seq_it (ixt_ok (var_ok h) rfl (safe_r1 _ _) rfl) (items_t w)
theorem br_fst {n : Int} {w : List Int} {ρ : Vl.Env} {i : Nat} (h : Env.at ρ i = some (brD n w)) : fOp [i] [] gIxA (fVar i) (fC (.int 0)) ρ = some (.int n, ρ) := ixt_ok (var_ok h) rfl (safe_r1 _ _) rfl
theorem br_snd {n : Int} {w : List Int} {ρ : Vl.Env} {i : Nat} (h : Env.at ρ i = some (brD n w)) : fOp [i] [] gIxA (fVar i) (fC (.int 1)) ρ = some (.tup (w.map D.int), ρ) := ixt_ok (var_ok h) rfl (safe_r1 _ _) rfl
/-! ### order_of -/
abbrev oB : MS := (sSet 1 (fCall F_after (fCons [1] [] (fVar 1) (fCons [] [] (fCall F_swap (fCons [0] [] (fOp [0] [] gIxA (fVar 0) (fC (.int 0))) (fCons [] [] (fCl gAbs (fCons [2] [] (fVar 2) fNil)) fNil))) fNil))))
theorem oo_split : F_order_of = runF 1 0 3 (sSeq (sSet 1 (fCall F_straight (fCons [0] [] (fOp [0] [] gIxA (fVar 0) (fC (.int 0))) fNil))) (sSeq (sFor (iSeq (fOp [0] [] gIxA (fVar 0) (fC (.int 1)))) (gNm 2) oB) (sRet (fMov 1)))) := rfl
theorem order_ok {n : Nat} {w : List Int} (hn : n ≤ 1000) (hw : Wd n w) : F_order_of [brD (n : Nat) w] = some (.tup (nsD (ord n w)), []) := by
  obtain ⟨y, hy⟩ := sfor_pre (i := 2) (body := oB) (ρ0 := [some (brD (n : Nat) w), some (.tup (nsD (ord n []))), none]) w (fun p => [some (brD (n : Nat) w), some (.tup (nsD (ord n p))), none]) none (br_items (i := 0) (n := (n : Nat)) rfl) rfl fun p x q e => by
    obtain ⟨hx, hp⟩ := wd_at hw e
    obtain ⟨k, e1, e2⟩ := natAbs_k hx
    have hP := ord_isP hp
    have sw := swap_ok n k hn e2
    have af := after_ok (ord n p) (swp (List.range' 1 n) k) (fun g hg => by
      have := IsP.rg hP g hg
      rw [hP.len] at this
      rwa [swp_len, List.length_range']) (by rw [hP.len]; exact hn)
    refine ⟨some (.int x), ?_⟩
    have ab := abs1 (ρ := [some (brD (n : Nat) w), some (.tup (nsD (ord n p))), some (.int x)]) (i := 2) (x := x) rfl
    rw [e1] at ab
    rw [ord_snoc]
    unfold ordS
    rw [e1, Nat.add_sub_cancel]
    exact set_to (ρ1 := [some (brD (n : Nat) w), some (.tup (nsD (ord n p))), some (.int x)]) (call_ok (cons_ok rfl (cons_ok (call_ok (cons_ok (br_fst rfl) (cons_ok ab rfl rfl) rfl) rfl rfl sw) rfl rfl) rfl) (frzL2 (frz_tns _) (frz_tns _)) (noL2 (no_ns _) (no_ns _)) af) rfl
  rw [oo_split]
  refine run_at (ρ0 := [some (brD (n : Nat) w), none, none]) (ρ := [some (brD (n : Nat) w), none, y]) rfl rfl ?_
  rw [seq_nx (ρ' := [some (brD (n : Nat) w), some (.tup (nsD (ord n []))), none]) (set_to (call_ok (cons_ok (br_fst rfl) rfl rfl) rfl rfl (straight_ok n hn)) rfl)]
  rw [seq_nx (ρ' := [some (brD (n : Nat) w), some (.tup (nsD (ord n w))), y]) hy]
  rfl
/-! ### _law_order_of -/
abbrev loC : M D := (fComp [2] (iRg1 (fCons [0] [] (fOp [0] [] gIxA (fVar 0) (fC (.int 0))) fNil)) (gNm 2) fYes (fOp [2] [] gAdd (fVar 2) (fC (.int 1))))
abbrev loF : MS := (sSeq (sSet 4 (fCl gAbs (fCons [3] [] (fVar 3) fNil))) (exS 1 4))
abbrev loZ : M D := (fComp [2] (iRg1 (fCons [0] [] (fOp [0] [] gIxA (fVar 0) (fC (.int 0))) fNil)) (gNm 2) fYes (fC (.int 0)))
abbrev loG : MS := (sAsg (gSt 5 (fOp [1] [] gSub (fOp [1] [] gIxA (fVar 1) (fVar 6)) (fC (.int 1)))) (fOp [6] [] gAdd (fVar 6) (fC (.int 1))))
theorem loo_split : F__law_order_of = runF 1 0 7 (sSeq (sSet 1 loC) (sSeq (sFor (iSeq (fOp [0] [] gIxA (fVar 0) (fC (.int 1)))) (gNm 3) loF) (sSeq (sSet 5 loZ) (sSeq (sFor (iRg1 (fCons [0] [] (fOp [0] [] gIxA (fVar 0) (fC (.int 0))) fNil)) (gNm 6) loG) (sRet (fCl gTuple (fCons [5] [] (fVar 5) fNil))))))) := rfl
theorem plus1 (n : Nat) : ((List.range n).map fun k => D.int ((k + 1 : Nat) : Int)) = nsD (List.range' 1 n) := by
  rw [← nsD_map]
  congr 1
  rw [List.range'_eq_map_range]
  exact List.map_congr_left fun k _ => Nat.add_comm k 1
theorem places_ok {n : Nat} {w : List Int} {ρ : Vl.Env} {i : Nat} (hn : n ≤ 1000) (h : Env.at ρ 0 = some (brD (n : Nat) w)) (ho : ownOk ρ [i] = true) (hi : i < ρ.length) :
    fComp [i] (iRg1 (fCons [0] [] (fOp [0] [] gIxA (fVar 0) (fC (.int 0))) fNil)) (gNm i) fYes (fOp [i] [] gAdd (fVar i) (fC (.int 1))) ρ = some (.lst true (nsD (List.range' 1 n)), ρ) := by
  have at_i : ∀ d : D, Env.at (ρ.set i (some d)) i = some d := fun d => by unfold Env.at; rw [List.getElem?_set_self hi]
  have := comp_all (i := i) (ρ0 := ρ) (ρ1 := ρ) (fi := (iRg1 (fCons [0] [] (fOp [0] [] gIxA (fVar 0) (fC (.int 0))) fNil))) (fe := (fOp [i] [] gAdd (fVar i) (fC (.int 1)))) (l := List.range n) (fun k => .int ((k + 1 : Nat) : Int)) (iRg1_ns n (cons_ok (br_fst h) rfl (safe_r1 _ _)) rfl (by omega)) ho (fun k _ => op_ok (var_ok (at_i _)) rfl (safe_r1 _ _) (gAdd_i _ _)) (by rw [List.length_range]; omega)
  rw [this, plus1]
theorem lorder_ok {n : Nat} {w : List Int} (hn : n ≤ 1000) (hw : Wd n w) : F__law_order_of [brD (n : Nat) w] = some (.tup (nsD (ord n w)), []) := by
  obtain ⟨y3, hf⟩ := sfor_pre (i := 3) (body := loF) (ρ0 := [some (brD (n : Nat) w), some (.lst true (nsD (plc n []))), none, none, lastA [], none, none]) w (fun p => [some (brD (n : Nat) w), some (.lst true (nsD (plc n p))), none, none, lastA p, none, none]) none (br_items (i := 0) (n := (n : Nat)) rfl) rfl fun p x q e => by
    obtain ⟨hx, hp⟩ := wd_at hw e
    obtain ⟨k, e1, e2⟩ := natAbs_k hx
    have ab := abs1 (ρ := [some (brD (n : Nat) w), some (.lst true (nsD (plc n p))), none, some (.int x), lastA p, none, none]) (i := 3) (x := x) rfl
    refine ⟨some (.int x), ?_⟩
    rw [plc_snoc, lastA_snoc]
    rw [e1] at ab ⊢
    rw [Nat.add_sub_cancel]
    have ex := exch (ρ := [some (brD (n : Nat) w), some (.lst true (nsD (plc n p))), none, some (.int x), some (.int ((k + 1 : Nat) : Int)), none, none]) (i := 1) (j := 4) (p := plc n p) (k := k) rfl rfl (by decide) (by rw [(plc_isP hp).len]; exact e2)
    exact (seq_nx (set_to ab rfl)).trans ex
  generalize hx4 : lastA w = x4 at hf
  have hP := plc_isP hw
  have oi := ord_inv hw
  generalize plc n w = P at hf hP oi
  have pl : P.length = n := hP.len
  have c2 : loZ [some (brD (n : Nat) w), some (.lst true (nsD P)), none, y3, x4, none, none] = some (.lst true (nsD (List.replicate n 0)), [some (brD (n : Nat) w), some (.lst true (nsD P)), none, y3, x4, none, none]) := by
    have := comp_all (i := 2) (ρ0 := [some (brD (n : Nat) w), some (.lst true (nsD P)), none, y3, x4, none, none]) (ρ1 := [some (brD (n : Nat) w), some (.lst true (nsD P)), none, y3, x4, none, none]) (fi := (iRg1 (fCons [0] [] (fOp [0] [] gIxA (fVar 0) (fC (.int 0))) fNil))) (fe := (fC (.int 0))) (l := List.range n) (fun k => .int ((0 : Nat) : Int)) (iRg1_ns n (cons_ok (br_fst rfl) rfl rfl) rfl (by omega)) rfl (fun k _ => rfl) (by rw [List.length_range]; omega)
    rw [show loZ = (fComp [2] (iRg1 (fCons [0] [] (fOp [0] [] gIxA (fVar 0) (fC (.int 0))) fNil)) (gNm 2) fYes (fC (.int 0))) from rfl, this, ← nsD_map (List.range n) (fun _ => 0)]
    congr 4
    rw [List.map_const', List.length_range]
  obtain ⟨y6, hg⟩ := sfor_rg (i := 6) (n := n) (body := loG) (fi := (iRg1 (fCons [0] [] (fOp [0] [] gIxA (fVar 0) (fC (.int 0))) fNil))) (ρ0 := [some (brD (n : Nat) w), some (.lst true (nsD P)), none, y3, x4, some (.lst true (nsD (invN P 0))), none]) (fun k => [some (brD (n : Nat) w), some (.lst true (nsD P)), none, y3, x4, some (.lst true (nsD (invN P k))), none]) none (iRg1_ns n (cons_ok (br_fst (i := 0) (n := (n : Nat)) (w := w) rfl) rfl rfl) rfl (by omega)) rfl fun k hk => by
    have i1 := atN (l := P) (j := (k : Int)) k rfl (by omega)
    have lo := hP.lo k hk
    have hi := hP.hi k hk
    have s1 := gSet_ns (l := invN P k) (j := ((ix P k : Nat) : Int) - 1) (w := (k : Int) + 1) (ix P k - 1) (k + 1) (by omega) rfl (by rw [invN_len]; omega)
    exact ⟨some (.int (k : Nat)), asg_ok rfl rfl (st_ok rfl (op_ok (ixl_ok rfl rfl rfl i1) rfl rfl (gSub_i _ _)) rfl s1 rfl)⟩
  rw [loo_split]
  refine run_at (ρ0 := [some (brD (n : Nat) w), none, none, none, none, none, none]) (ρ := [some (brD (n : Nat) w), some (.lst true (nsD P)), none, y3, x4, some (.lst true (nsD (invN P n))), y6]) rfl rfl ?_
  rw [seq_nx (ρ' := [some (brD (n : Nat) w), some (.lst true (nsD (plc n []))), none, none, lastA [], none, none]) (set_to (places_ok hn rfl rfl (show 2 < 7 by decide)) rfl)]
  rw [seq_nx (ρ' := [some (brD (n : Nat) w), some (.lst true (nsD P)), none, y3, x4, none, none]) hf]
  rw [seq_nx (ρ' := [some (brD (n : Nat) w), some (.lst true (nsD P)), none, y3, x4, some (.lst true (nsD (invN P 0))), none]) (set_to c2 (by show _ = [some (brD (n : Nat) w), some (.lst true (nsD P)), none, y3, x4, some (.lst true (nsD (List.replicate P.length 0))), none]; rw [pl]; rfl))]
  rw [seq_nx (ρ' := [some (brD (n : Nat) w), some (.lst true (nsD P)), none, y3, x4, some (.lst true (nsD (invN P n))), y6]) hg]
  refine ret_ok (cl_ok (cons_ok rfl rfl rfl) ?_)
  rw [gTuple_ns, oi]
  show _ = some (D.tup (nsD (invN P P.length)))
  rw [pl]
end G09

namespace G09
open PySem PySem.Spec PyProof.Rows L2 Vl Pm
def pD (q : Nat × Nat) : D := .tup [.int (q.1 : Nat), .int (q.2 : Nat)]
def tD (T : Tb) : List (D × D) := T.map fun p => (pD p.1, .int p.2)
theorem kEq_p (a b : Nat × Nat) : kEq (pD a) (pD b) = decide (a = b) := by
  obtain ⟨a1, a2⟩ := a
  obtain ⟨b1, b2⟩ := b
  show (decide (((a1 : Nat) : Int) = (b1 : Nat)) && (decide (((a2 : Nat) : Int) = (b2 : Nat)) && true)) = _
  rw [Bool.and_true, Bool.eq_iff_iff, Bool.and_eq_true, decide_eq_true_iff, decide_eq_true_iff, decide_eq_true_iff, Prod.mk.injEq]
  omega
theorem look_D (T : Tb) (q : Nat × Nat) : lookD (tD T) (pD q) = (look T q).map D.int := by
  induction T with
  | nil => rfl
  | cons p r ih =>
    show (if kEq (pD p.1) (pD q) = true then some (D.int p.2) else lookD (tD r) (pD q)) = _
    unfold look
    rw [kEq_p]
    by_cases c : p.1 = q
    · rw [if_pos (decide_eq_true c), if_pos c]; rfl
    · rw [if_neg (by rw [decide_eq_false c]; simp), if_neg c, ih]
theorem has_D (T : Tb) (q : Nat × Nat) : hasD (tD T) (pD q) = has T q := by
  induction T with
  | nil => rfl
  | cons p r ih =>
    show (kEq (pD p.1) (pD q) || hasD (tD r) (pD q)) = (decide (p.1 = q) || has r q)
    rw [kEq_p, ih]
theorem put_D (T : Tb) (q : Nat × Nat) (v : Int) : putD (tD T) (pD q) (.int v) = tD (putT T q v) := by
  unfold putD putT
  rw [has_D]
  split
  · unfold replD tD
    rw [List.map_map, List.map_map]
    refine List.map_congr_left fun p _ => ?_
    show (if kEq (pD p.1) (pD q) = true then (pD p.1, D.int v) else (pD p.1, D.int p.2)) = (pD (if p.1 = q then (p.1, v) else p).1, D.int (if p.1 = q then (p.1, v) else p).2)
    rw [kEq_p]
    by_cases c : p.1 = q
    · rw [if_pos (decide_eq_true c), if_pos c]
    · rw [if_neg (by rw [decide_eq_false c]; simp), if_neg c]
  · unfold tD
    rw [List.map_append]
    rfl
theorem noP_t (T : Tb) : D.noOwnP (tD T) = true := by
  induction T with
  | nil => rfl
  | cons p r ih => exact ih
theorem tD_len (T : Tb) : (tD T).length = T.length := List.length_map ..
theorem gSet_t {T : Tb} {q : Nat × Nat} {v : Int} (h : T.length ≤ 100000) : gSet (.dct true true (tD T)) (pD q) (.int v) = some (.dct true true (tD (putT T q v))) := by
  show (if (D.noOwnP (tD T) && szOk (tD T).length) = true then some (D.dct true true (putD (tD T) (pD q) (.int v))) else none) = _
  rw [noP_t, tD_len, show szOk T.length = true from decide_eq_true h, if_pos (by rfl), put_D]
theorem get2_ok {O0 T1 T2 : List Nat} {fo fk fx : M D} {o k z r : D} {ρ ρ1 ρ2 ρ3 : Vl.Env} (h1 : fo ρ = some (o, ρ1)) (h2 : fk ρ1 = some (k, ρ2)) (h3 : fx ρ2 = some (z, ρ3)) (hs : safe O0 (T1 ++ T2) o = true) (hk : k.noOwn = true) (hz : z.noOwn = true) (hg : gGet2 o k z = some r) (hr : r.noOwn = true) : fGet2 O0 T1 T2 fo fk fx ρ = some (r, ρ3) := by
  show (fo ρ).bind _ = _
  rw [h1, Option.bind_some, h2, Option.bind_some, h3, Option.bind_some, if_pos (by rw [hs, hk, hz]; rfl), hg, Option.bind_some, if_pos hr]
abbrev tS (F : FD) : MS := (sAsg (gSt 3 (fVar 6)) (fOp [] [] gAdd (fGet2 [3] [] [] (fVar 3) (fVar 6) (fC (.int 0))) (fCall F (fCons [4] [] (fVar 4) fNil))))
theorem tstep {F : FD} {ρ : Vl.Env} {T : Tb} {q : Nat × Nat} {x : Int} (hF : F [.int x] = some (.int (sg x), [])) (h3 : Env.at ρ 3 = some (.dct true true (tD T))) (h6 : Env.at ρ 6 = some (pD q)) (h4 : Env.at ρ 4 = some (.int x)) (hl : T.length ≤ 100000) :
    tS F ρ = some (.nx (ρ.set 3 (some (.dct true true (tD (putT T q ((look T q).getD 0 + sg x))))))) := by
  have e : gGet2 (.dct true true (tD T)) (pD q) (.int 0) = some (.int ((look T q).getD 0)) := by
    show some ((lookD (tD T) (pD q)).getD (.int 0)) = _
    rw [look_D]
    cases look T q <;> rfl
  have g : fGet2 [3] [] [] (fVar 3) (fVar 6) (fC (.int 0)) ρ = some (.int ((look T q).getD 0), ρ) := get2_ok (var_ok h3) (var_ok h6) rfl (safe_r1 _ _) rfl rfl e rfl
  exact asg_ok (op_ok g (call1 h4 hF) rfl (gAdd_i _ _)) rfl (st_ok h3 (var_ok h6) h3 (gSet_t hl) rfl)
theorem srt2 (u v : Nat) : srtI [(u : Int), (v : Int)] = [((min u v : Nat) : Int), ((max u v : Nat) : Int)] := by
  show (if ((u : Int)) ≤ (v : Int) then _ else _) = _
  split
  · rw [show min u v = u by omega, show max u v = v by omega]
  · rw [show min u v = v by omega, show max u v = u by omega]
    rfl
def keyA (n : Nat) (p : List Int) : Option D := p.getLast?.map fun x => pD (key (tab n p.dropLast).1 (x.natAbs - 1))
theorem keyA_snoc (n : Nat) (p : List Int) (x : Int) : keyA n (p ++ [x]) = some (pD (key (tab n p).1 (x.natAbs - 1))) := by
  unfold keyA
  rw [List.getLast?_concat, List.dropLast_concat]
  rfl
/-! ### crossing_table -/
abbrev ctP : M D := (fCl gTuple (fCons [] [] (fCl gSortedI (fCons [] [] (fLst (fCons [] [] (chk (fOp [2] [] gIxA (fVar 2) (fOp [5] [] gSub (fVar 5) (fC (.int 1))))) (fCons [] [] (chk (fOp [2] [] gIxA (fVar 2) (fVar 5))) fNil))) fNil)) fNil))
abbrev ctB : MS := (sSeq (sSet 5 (fCl gAbs (fCons [4] [] (fVar 4) fNil))) (sSeq (sSet 6 ctP) (sSeq (tS F_signum) (exS 2 5))))
theorem ct_split : F_crossing_table = runF 1 0 7 (sSeq (sSet 1 (chk (fOp [0] [] gIxA (fVar 0) (fC (.int 0))))) (sSeq (sSet 2 (fLstRg (rRg2 [] [] (fC (.int 1)) (fOp [1] [] gAdd (fVar 1) (fC (.int 1)))))) (sSeq (sSet 3 fDnewT) (sSeq (sFor (iSeq (fOp [0] [] gIxA (fVar 0) (fC (.int 1)))) (gNm 4) ctB) (sRet (fMov 3)))))) := rfl
theorem ctable_ok {n : Nat} {w : List Int} (hn : n ≤ 1000) (hw : Wd n w) (hl : w.length ≤ 1000) : F_crossing_table [brD (n : Nat) w] = some (.dct true true (tD (tab n w).2), []) := by
  obtain ⟨y, hy⟩ := sfor_pre (i := 4) (body := ctB) (ρ0 := [some (brD (n : Nat) w), some (.int (n : Nat)), some (.lst true (nsD (tab n []).1)), some (.dct true true (tD (tab n []).2)), none, lastA [], keyA n []]) w
    (fun p => [some (brD (n : Nat) w), some (.int (n : Nat)), some (.lst true (nsD (tab n p).1)), some (.dct true true (tD (tab n p).2)), none, lastA p, keyA n p]) none (br_items (i := 0) (n := (n : Nat)) rfl) rfl fun p x q e => by
    obtain ⟨hx, hp⟩ := wd_at hw e
    obtain ⟨k, e1, e2⟩ := natAbs_k hx
    have hT := tab_ok hp
    have hTl := tab_len hp
    have pl : p.length ≤ 1000 := by rw [e] at hl; simp at hl; omega
    have ab := abs1 (ρ := [some (brD (n : Nat) w), some (.int (n : Nat)), some (.lst true (nsD (tab n p).1)), some (.dct true true (tD (tab n p).2)), some (.int x), lastA p, keyA n p]) (i := 4) (x := x) rfl
    refine ⟨some (.int x), ?_⟩
    rw [tab_snoc, lastA_snoc, keyA_snoc]
    unfold tbS
    rw [e1] at ab ⊢
    rw [Nat.add_sub_cancel]
    have hP := hT.p
    generalize (tab n p).1 = P at ab hP ⊢
    generalize (tab n p).2 = T at ab hTl ⊢
    have i1 := atN (l := P) (j := ((k + 1 : Nat) : Int)) (k + 1) rfl (by rw [hP.len]; exact e2)
    have i0 := atN (l := P) (j := ((k + 1 : Nat) : Int) - 1) k (by omega) (by rw [hP.len]; omega)
    have pr : ctP [some (brD (n : Nat) w), some (.int (n : Nat)), some (.lst true (nsD P)), some (.dct true true (tD T)), some (.int x), some (.int ((k + 1 : Nat) : Int)), keyA n p] = some (pD (key P k), [some (brD (n : Nat) w), some (.int (n : Nat)), some (.lst true (nsD P)), some (.dct true true (tD T)), some (.int x), some (.int ((k + 1 : Nat) : Int)), keyA n p]) := by
      refine cl_ok (cons_ok (cl_ok (cons_ok (lst_ok (cons_ok (chk_ok (ixl_ok rfl (op_ok rfl rfl rfl (gSub_i _ _)) rfl i0) rfl) (cons_ok (chk_ok (ixl_ok rfl rfl rfl i1) rfl) rfl rfl) rfl) rfl) rfl rfl) (show gSortedI [.lst true [.int (ix P k : Nat), .int (ix P (k + 1) : Nat)]] = some (.lst true ((srtI [(ix P k : Int), (ix P (k + 1) : Int)]).map D.int)) from rfl)) rfl rfl) ?_
      rw [srt2]
      rfl
    refine (seq_nx (ρ' := [some (brD (n : Nat) w), some (.int (n : Nat)), some (.lst true (nsD P)), some (.dct true true (tD T)), some (.int x), some (.int ((k + 1 : Nat) : Int)), keyA n p]) (set_to ab rfl)).trans ?_
    refine (seq_nx (ρ' := [some (brD (n : Nat) w), some (.int (n : Nat)), some (.lst true (nsD P)), some (.dct true true (tD T)), some (.int x), some (.int ((k + 1 : Nat) : Int)), some (pD (key P k))]) (set_to pr rfl)).trans ?_
    refine (seq_nx (tstep (signum_ok hx.1) rfl rfl rfl (by omega))).trans ?_
    exact exch rfl rfl (by decide) (by rw [hP.len]; exact e2)
  have c1 : fLstRg (rRg2 [] [] (fC (.int 1)) (fOp [1] [] gAdd (fVar 1) (fC (.int 1)))) [some (brD (n : Nat) w), some (.int (n : Nat)), none, none, none, none, none] = some (.lst true (nsD (List.range' 1 n)), [some (brD (n : Nat) w), some (.int (n : Nat)), none, none, none, none, none]) := by
    rw [lstRg_ok (ρ1 := [some (brD (n : Nat) w), some (.int (n : Nat)), none, none, none, none, none]) (rRg2_ok rfl rfl) (okRg_n (by omega) (by omega) (by omega) (by omega)), show ((n : Int) + 1 - 1).toNat = n by omega, rg1_ns]
  rw [ct_split]
  refine run_at (ρ0 := [some (brD (n : Nat) w), none, none, none, none, none, none]) (ρ := [some (brD (n : Nat) w), some (.int (n : Nat)), some (.lst true (nsD (tab n w).1)), none, y, lastA w, keyA n w]) rfl rfl ?_
  rw [seq_nx (ρ' := [some (brD (n : Nat) w), some (.int (n : Nat)), none, none, none, none, none]) (set_to (chk_ok (br_fst rfl) rfl) rfl)]
  rw [seq_nx (ρ' := [some (brD (n : Nat) w), some (.int (n : Nat)), some (.lst true (nsD (List.range' 1 n))), none, none, none, none]) (set_to c1 rfl)]
  rw [seq_nx (ρ' := [some (brD (n : Nat) w), some (.int (n : Nat)), some (.lst true (nsD (tab n []).1)), some (.dct true true (tD (tab n []).2)), none, lastA [], keyA n []]) rfl]
  rw [seq_nx (ρ' := [some (brD (n : Nat) w), some (.int (n : Nat)), some (.lst true (nsD (tab n w).1)), some (.dct true true (tD (tab n w).2)), y, lastA w, keyA n w]) hy]
  rfl
/-! ### _law_table -/
abbrev ltP : M D := (fTup (fCons [] [] (fCl gMinA (fCons [1] [] (fOp [1] [] gIxA (fVar 1) (fOp [5] [] gSub (fVar 5) (fC (.int 1)))) (fCons [1] [] (fOp [1] [] gIxA (fVar 1) (fVar 5)) fNil))) (fCons [] [] (fCl gMaxA (fCons [1] [] (fOp [1] [] gIxA (fVar 1) (fOp [5] [] gSub (fVar 5) (fC (.int 1)))) (fCons [1] [] (fOp [1] [] gIxA (fVar 1) (fVar 5)) fNil))) fNil)))
abbrev ltB : MS := (sSeq (sSet 5 (fCl gAbs (fCons [4] [] (fVar 4) fNil))) (sSeq (sSet 6 ltP) (sSeq (tS F__law_sign) (exS 1 5))))
theorem lt_split : F__law_table = runF 1 0 7 (sSeq (sSet 1 (fComp [2] (iRg1 (fCons [0] [] (fOp [0] [] gIxA (fVar 0) (fC (.int 0))) fNil)) (gNm 2) fYes (fOp [2] [] gAdd (fVar 2) (fC (.int 1))))) (sSeq (sSet 3 fDnewT) (sSeq (sFor (iSeq (fOp [0] [] gIxA (fVar 0) (fC (.int 1)))) (gNm 4) ltB) (sRet (fMov 3))))) := rfl
theorem ltable_ok {n : Nat} {w : List Int} (hn : n ≤ 1000) (hw : Wd n w) (hl : w.length ≤ 1000) : F__law_table [brD (n : Nat) w] = some (.dct true true (tD (tab n w).2), []) := by
  obtain ⟨y, hy⟩ := sfor_pre (i := 4) (body := ltB) (ρ0 := [some (brD (n : Nat) w), some (.lst true (nsD (tab n []).1)), none, some (.dct true true (tD (tab n []).2)), none, lastA [], keyA n []]) w
    (fun p => [some (brD (n : Nat) w), some (.lst true (nsD (tab n p).1)), none, some (.dct true true (tD (tab n p).2)), none, lastA p, keyA n p]) none (br_items (i := 0) (n := (n : Nat)) rfl) rfl fun p x q e => by
    obtain ⟨hx, hp⟩ := wd_at hw e
    obtain ⟨k, e1, e2⟩ := natAbs_k hx
    have hT := tab_ok hp
    have hTl := tab_len hp
    have pl : p.length ≤ 1000 := by rw [e] at hl; simp at hl; omega
    have ab := abs1 (ρ := [some (brD (n : Nat) w), some (.lst true (nsD (tab n p).1)), none, some (.dct true true (tD (tab n p).2)), some (.int x), lastA p, keyA n p]) (i := 4) (x := x) rfl
    refine ⟨some (.int x), ?_⟩
    rw [tab_snoc, lastA_snoc, keyA_snoc]
    unfold tbS
    rw [e1] at ab ⊢
    rw [Nat.add_sub_cancel]
    have hP := hT.p
    generalize (tab n p).1 = P at ab hP ⊢
    generalize (tab n p).2 = T at ab hTl ⊢
    have i1 := atN (l := P) (j := ((k + 1 : Nat) : Int)) (k + 1) rfl (by rw [hP.len]; exact e2)
    have i0 := atN (l := P) (j := ((k + 1 : Nat) : Int) - 1) k (by omega) (by rw [hP.len]; omega)
    have mn : ∀ u v : Nat, gMinA [.int (u : Nat), .int (v : Nat)] = some (.int (min u v : Nat)) := fun u v => by
      show some (D.int (if (v : Int) < (u : Int) then (v : Int) else (u : Int))) = _
      congr 2
      split <;> omega
    have mx : ∀ u v : Nat, gMaxA [.int (u : Nat), .int (v : Nat)] = some (.int (max u v : Nat)) := fun u v => by
      show some (D.int (if (v : Int) > (u : Int) then (v : Int) else (u : Int))) = _
      congr 2
      split <;> omega
    have pr : ltP [some (brD (n : Nat) w), some (.lst true (nsD P)), none, some (.dct true true (tD T)), some (.int x), some (.int ((k + 1 : Nat) : Int)), keyA n p] = some (pD (key P k), [some (brD (n : Nat) w), some (.lst true (nsD P)), none, some (.dct true true (tD T)), some (.int x), some (.int ((k + 1 : Nat) : Int)), keyA n p]) :=
      tup_ok (cons_ok (cl_ok (cons_ok (ixl_ok rfl (op_ok rfl rfl rfl (gSub_i _ _)) rfl i0) (cons_ok (ixl_ok rfl rfl rfl i1) rfl rfl) rfl) (mn _ _)) (cons_ok (cl_ok (cons_ok (ixl_ok rfl (op_ok rfl rfl rfl (gSub_i _ _)) rfl i0) (cons_ok (ixl_ok rfl rfl rfl i1) rfl rfl) rfl) (mx _ _)) rfl rfl) rfl) rfl
    refine (seq_nx (ρ' := [some (brD (n : Nat) w), some (.lst true (nsD P)), none, some (.dct true true (tD T)), some (.int x), some (.int ((k + 1 : Nat) : Int)), keyA n p]) (set_to ab rfl)).trans ?_
    refine (seq_nx (ρ' := [some (brD (n : Nat) w), some (.lst true (nsD P)), none, some (.dct true true (tD T)), some (.int x), some (.int ((k + 1 : Nat) : Int)), some (pD (key P k))]) (set_to pr rfl)).trans ?_
    refine (seq_nx (tstep (lsign_ok x) rfl rfl rfl (by omega))).trans ?_
    exact exch rfl rfl (by decide) (by rw [hP.len]; exact e2)
  rw [lt_split]
  refine run_at (ρ0 := [some (brD (n : Nat) w), none, none, none, none, none, none]) (ρ := [some (brD (n : Nat) w), some (.lst true (nsD (tab n w).1)), none, none, y, lastA w, keyA n w]) rfl rfl ?_
  rw [seq_nx (ρ' := [some (brD (n : Nat) w), some (.lst true (nsD (List.range' 1 n))), none, none, none, none, none]) (set_to (places_ok hn rfl rfl (show 2 < 7 by decide)) rfl)]
  rw [seq_nx (ρ' := [some (brD (n : Nat) w), some (.lst true (nsD (tab n []).1)), none, some (.dct true true (tD (tab n []).2)), none, lastA [], keyA n []]) rfl]
  rw [seq_nx (ρ' := [some (brD (n : Nat) w), some (.lst true (nsD (tab n w).1)), none, some (.dct true true (tD (tab n w).2)), y, lastA w, keyA n w]) hy]
  rfl
/-- the two tables are one -/
theorem cmp_t {T : Tb} (h : (T.map (·.1)).Nodup) : gCmpT true (.dct true true (tD T)) (.dct true true (tD T)) = some (.bl false) := by
  have i0 : (tD T).all (fun p => intD p.2) = true := by
    rw [List.all_eq_true]
    intro p hp
    obtain ⟨q, _, rfl⟩ := List.mem_map.mp hp
    rfl
  have e : eqPD (tD T) (tD T) = true := by
    unfold eqPD
    rw [Bool.and_eq_true, List.all_eq_true]
    refine ⟨by simp, fun p hp => ?_⟩
    obtain ⟨q, hq, rfl⟩ := List.mem_map.mp hp
    show (match lookD (tD T) (pD q.1), D.int q.2 with | some (.int m), .int n => decide (n = m) | _, _ => false) = true
    rw [look_D, look_nd h q hq]
    exact decide_eq_true rfl
  show (if ((tD T).all (fun p => intD p.2) && (tD T).all fun p => intD p.2) = true then some (D.bl (eqPD (tD T) (tD T) != true)) else none) = _
  rw [i0, e]
  rfl
end G09

namespace Vl
open PySem PySem.Spec PyProof.Rows L2
theorem for_inv {i : Nat} {body : MS} (I : Nat → Vl.Env → Prop) : ∀ (ds : List D) (k : Nat) (ρ : Vl.Env), I k ρ → (∀ j d ρ, ds[j]? = some d → I (k + j) ρ → ∃ ρ', body (ρ.set i (some d)) = some (.nx ρ') ∧ I (k + j + 1) ρ') → ∃ ρ', forL (gNm i) body ds ρ = some (.nx ρ') ∧ I (k + ds.length) ρ'
  | [], k, ρ, h, _ => ⟨ρ, rfl, h⟩
  | d :: ds, k, ρ, h, hs => by
    obtain ⟨ρ1, h1, h2⟩ := hs 0 d ρ rfl h
    obtain ⟨ρ2, h3, h4⟩ := for_inv I ds (k + 1) ρ1 h2 fun j e ρ' he hi => by
      have := hs (j + 1) e ρ' he (by rw [show k + (j + 1) = k + 1 + j by omega]; exact hi)
      rw [show k + (j + 1) = k + 1 + j by omega] at this
      exact this
    refine ⟨ρ2, ?_, by rw [List.length_cons, show k + (ds.length + 1) = k + 1 + ds.length by omega]; exact h4⟩
    rw [forL_nx (ρ1 := ρ.set i (some d)) rfl h1]
    exact h3
end Vl
namespace G09
open PySem PySem.Spec PyProof.Rows L2 Vl Pm
def snD (l : List Nat) : List (D × D) := l.map fun k => (.int (k : Nat), .bl true)
theorem hasD_sn (l : List Nat) (v : Nat) : hasD (snD l) (.int (v : Nat)) = decide (v ∈ l) := by
  induction l with
  | nil => rfl
  | cons k r ih =>
    show (decide (((k : Nat) : Int) = (v : Nat)) || hasD (snD r) (.int (v : Nat))) = _
    have e : ((k : Nat) : Int) = (v : Nat) ↔ v = k := by omega
    rw [ih, Bool.eq_iff_iff, Bool.or_eq_true, decide_eq_true_iff, decide_eq_true_iff, decide_eq_true_iff, List.mem_cons, e]
theorem gNi_sn (l : List Nat) (v : Nat) : gNi (.int (v : Nat)) (.dct true false (snD l)) = some (.bl (!decide (v ∈ l))) := by
  show some (D.bl (!hasD (snD l) (.int (v : Nat)))) = _
  rw [hasD_sn]
theorem noP_sn (l : List Nat) : D.noOwnP (snD l) = true := by
  induction l with
  | nil => rfl
  | cons k r ih => exact ih
theorem gSet_sn {l : List Nat} {v : Nat} (h : v ∉ l) (hl : l.length ≤ 100000) : gSet (.dct true false (snD l)) (.int (v : Nat)) (.bl true) = some (.dct true false (snD (l ++ [v]))) := by
  show (if (D.noOwnP (snD l) && szOk (snD l).length) = true then some (D.dct true false (putD (snD l) (.int (v : Nat)) (.bl true))) else none) = _
  have e : putD (snD l) (.int (v : Nat)) (.bl true) = snD (l ++ [v]) := by
    unfold putD
    rw [hasD_sn, decide_eq_false h, if_neg Bool.false_ne_true]
    unfold snD
    rw [List.map_append]
    rfl
  rw [noP_sn, show (snD l).length = l.length from List.length_map .., show szOk l.length = true from decide_eq_true hl, if_pos (by rfl), e]
theorem range_snoc (f : Nat → Nat) (j : Nat) : (List.range (j + 1)).map f = (List.range j).map f ++ [f j] := by
  rw [List.range_succ, List.map_append]
  rfl
/-! ### circles -/
abbrev ciT : M Bool := (fB (fOp [5] [] gNi (fVar 5) (fVar 2)))
abbrev ciW : MS := (sSeq (sAsg (gSt 2 (fVar 5)) (fC (.bl true))) (sSeq (sDrop (fMut 4 "list" gAppend (fCons [] [] (fAli 5) fNil))) (sSet 5 (chk (fOp [0] [] gIxA (fVar 0) (fOp [5] [] gSub (fVar 5) (fC (.int 1))))))))
abbrev ciB : MS := (sIf (fB (fOp [3] [] gNi (fVar 3) (fVar 2))) (sSeq (sSet 4 (fLst fNil)) (sSeq (sSet 5 (fAli 3)) (sSeq (sWhile ciT ciW) (sDrop (fMut 1 "list" gAppend (fCons [] [] (fCl gTuple (fCons [4] [] (fVar 4) fNil)) fNil)))))) sNil)
theorem ci_split : F_circles = runF 1 0 6 (sSeq (sSet 1 (fLst fNil)) (sSeq (sSet 2 fDnew) (sSeq (sFor (iRg2 (fCons [] [] (fC (.int 1)) (fCons [] [] (fOp [] [] gAdd (fCl gLen (fCons [0] [] (fVar 0) fNil)) (fC (.int 1))) fNil))) (gNm 3) ciB) (sRet (fMov 1))))) := rfl
abbrev ciE (a : List Nat) (fd : List D) (sn : List Nat) (x3 x4 x5 : Option D) : Vl.Env := [some (.tup (nsD a)), some (.lst true fd), some (.dct true false (snD sn)), x3, x4, x5]
theorem ci_while {n : Nat} {a : List Nat} (h : IsP n a) (hn : n ≤ 1000) (fd : List D) (S : List Nat) (hS : S.length ≤ 1000) (x3 : Option D) {s : Nat} (h1 : 1 ≤ s) (h2 : s ≤ n) (fr : ∀ x ∈ orb n a s, x ∉ S) : ∀ (d j : Nat), j + d = per n a s →
    whileN (d + 1) ciT ciW (ciE a fd (S ++ (List.range j).map (it a s)) x3 (some (.lst true (nsD ((List.range j).map (it a s))))) (some (.int (it a s j : Nat)))) = some (.nx (ciE a fd (S ++ orb n a s) x3 (some (.lst true (nsD (orb n a s)))) (some (.int (it a s (per n a s) : Nat)))))
  | 0, j, e => by
    obtain ⟨p1, p2, p3, p4⟩ := per_ok h h1 h2
    have ej : j = per n a s := by omega
    subst ej
    have m : it a s (per n a s) ∈ S ++ orb n a s := List.mem_append_right _ (by rw [p3]; exact orb_self h h1 h2)
    rw [while_f (b_ok (op_ok rfl rfl rfl ((gNi_sn _ _).trans (by rw [decide_eq_true (show it a s (per n a s) ∈ S ++ (List.range (per n a s)).map (it a s) from m)]; rfl))))]
    rfl
  | d + 1, j, e => by
    obtain ⟨p1, p2, p3, p4⟩ := per_ok h h1 h2
    have nm : it a s j ∉ S ++ (List.range j).map (it a s) := fun c => by
      rcases List.mem_append.mp c with c | c
      · exact fr _ (orb_any h h1 h2 j) c
      · obtain ⟨i, hi, e2⟩ := List.mem_map.mp c
        exact it_inj h h1 h2 (List.mem_range.mp hi) (by omega) e2
    have rg := it_rg h h1 h2 j
    have sl : (S ++ (List.range j).map (it a s)).length ≤ 100000 := by rw [List.length_append, List.length_map, List.length_range]; omega
    have e5 := atN (l := a) (j := ((it a s j : Nat) : Int) - 1) (it a s j - 1) (by omega) (by rw [h.len]; omega)
    rw [while_t (ρ1 := ciE a fd (S ++ (List.range j).map (it a s)) x3 (some (.lst true (nsD ((List.range j).map (it a s))))) (some (.int (it a s j : Nat)))) (ρ2 := ciE a fd (S ++ (List.range (j + 1)).map (it a s)) x3 (some (.lst true (nsD ((List.range (j + 1)).map (it a s))))) (some (.int (it a s (j + 1) : Nat)))) (b_ok (op_ok rfl rfl rfl ((gNi_sn _ _).trans (by rw [decide_eq_false nm]; rfl)))) ?_]
    · exact ci_while h hn fd S hS x3 h1 h2 fr d (j + 1) (by omega)
    · rw [range_snoc, ← List.append_assoc]
      refine (seq_nx (ρ' := ciE a fd (S ++ (List.range j).map (it a s) ++ [it a s j]) x3 (some (.lst true (nsD ((List.range j).map (it a s))))) (some (.int (it a s j : Nat)))) (asg_ok rfl rfl (st_ok rfl rfl rfl (gSet_sn nm sl) rfl))).trans ?_
      refine (seq_nx (ρ' := ciE a fd (S ++ (List.range j).map (it a s) ++ [it a s j]) x3 (some (.lst true (nsD ((List.range j).map (it a s) ++ [it a s j])))) (some (.int (it a s j : Nat)))) (drop_ok (mut_ok rfl rfl (cons_ok (ali_ok rfl rfl) rfl rfl) rfl (gApp_ns _ _ (by rw [List.length_map, List.length_range]; omega)) rfl))).trans ?_
      exact set_to (chk_ok (ixt_ok rfl (op_ok rfl rfl rfl (gSub_i _ _)) rfl e5) rfl) rfl
def ptD (P : List (List Nat)) : List D := P.map fun c => .tup (nsD c)
theorem ptD_app (P : List (List Nat)) (c : List Nat) : ptD (P ++ [c]) = ptD P ++ [.tup (nsD c)] := by unfold ptD; rw [List.map_append]; rfl
theorem no_pt : ∀ P : List (List Nat), D.noOwnL (ptD P) = true
  | [] => rfl
  | c :: r => by
    show (D.noOwn (.tup (nsD c)) && D.noOwnL (ptD r)) = true
    rw [no_pt r, show D.noOwn (.tup (nsD c)) = true from no_ns c]
    rfl
theorem flat_len {n : Nat} {a : List Nat} (h : IsP n a) {k : Nat} (hk : k ≤ n) : ((pts n a k).flatten).length ≤ n := by
  have := len_le (m := List.range' 1 n) (pts_nd h k hk) fun x hx => by
    obtain ⟨c, hc, hx⟩ := List.mem_flatten.mp hx
    have := pts_rg h hk hc hx
    rw [List.mem_range'_1]
    omega
  rwa [List.length_range'] at this
theorem nd_one {n : Nat} {ρ ρ1 : Vl.Env} {fr : M (List D)} {j : Int} (hn : n ≤ 1000) (h : fr ρ = some ([.int 1, .int j], ρ1)) (e : j = (n : Nat) + 1) : iRg2 fr ρ = some (nsD (List.range' 1 n), ρ1) := by
  subst e
  have := iRg2_ok h (okR_n (by omega) (by omega)) (okR_n (by omega) (by omega))
  rw [this, show ((n : Int) + 1 - 1).toNat = n by omega, rg1_ns]
theorem gAppD {l : List D} {d : D} (h : l.length ≤ 100000) : gAppend (.lst true l) [d] = some (.non, .lst true (l ++ [d])) := by
  show (if szOk l.length = true then some (D.non, D.lst true (l ++ [d])) else none) = _
  rw [if_pos (show szOk l.length = true from decide_eq_true h)]
theorem circles_ok {n : Nat} {a : List Nat} (h : IsP n a) (hn : n ≤ 1000) : F_circles [.tup (nsD a)] = some (.lst true (ptD (pts n a n)), []) := by
  obtain ⟨ρ', hf, x3, x4, x5, rfl⟩ := for_inv (i := 3) (body := ciB) (fun k ρ => ∃ x3 x4 x5, ρ = ciE a (ptD (pts n a k)) (pts n a k).flatten x3 x4 x5) (nsD (List.range' 1 n)) 0 (ciE a [] [] none none none) ⟨none, none, none, by simp [pts, ptD]⟩ fun j d ρ hd hI => by
    obtain ⟨x3, x4, x5, rfl⟩ := hI
    obtain ⟨hj, rfl⟩ := ns_get hd
    rw [List.length_range'] at hj
    rw [ix_id hj, Nat.zero_add]
    have g := gNi_sn (pts n a j).flatten (j + 1)
    have pl := pts_len (a := a) (n := n) h j
    by_cases c : lst n a (j + 1)
    · have ns : j + 1 ∉ (pts n a j).flatten := fun m => (seen_iff h hj).mp m c
      obtain ⟨p1, p2, p3, p4⟩ := per_ok h (show 1 ≤ j + 1 by omega) (show j + 1 ≤ n by omega)
      rw [decide_eq_false ns] at g
      have w := ci_while h hn (ptD (pts n a j)) (pts n a j).flatten (by have := flat_len h (show j ≤ n by omega); omega) (some (.int ((j + 1 : Nat) : Int))) (show 1 ≤ j + 1 by omega) (show j + 1 ≤ n by omega) (fun x hx => fresh h hj c hx) (per n a (j + 1)) 0 (by omega)
      have w := sWhile_of (show per n a (j + 1) + 1 ≤ fuel by unfold fuel; omega) w
      refine ⟨ciE a (ptD (pts n a (j + 1))) (pts n a (j + 1)).flatten (some (.int ((j + 1 : Nat) : Int))) (some (.lst true (nsD (orb n a (j + 1))))) (some (.int (it a (j + 1) (per n a (j + 1)) : Nat))), ?_, _, _, _, rfl⟩
      rw [pts_succ, if_pos c, List.flatten_append, ptD_app, show [orb n a (j + 1)].flatten = orb n a (j + 1) by simp]
      refine (if_t (b_ok (op_ok rfl rfl rfl g))).trans ?_
      refine (seq_nx (ρ' := ciE a (ptD (pts n a j)) (pts n a j).flatten (some (.int ((j + 1 : Nat) : Int))) (some (.lst true [])) x5) (set_to (lst_ok (ds := []) rfl rfl) rfl)).trans ?_
      refine (seq_nx (ρ' := ciE a (ptD (pts n a j)) ((pts n a j).flatten ++ (List.range 0).map (it a (j + 1))) (some (.int ((j + 1 : Nat) : Int))) (some (.lst true (nsD ((List.range 0).map (it a (j + 1)))))) (some (.int (it a (j + 1) 0 : Nat)))) (set_to (ali_ok rfl rfl) (by rw [show (List.range 0).map (it a (j + 1)) = [] from rfl, List.append_nil]; rfl))).trans ?_
      refine (seq_nx w).trans ?_
      exact drop_ok (mut_ok rfl rfl (cons_ok (cl_ok (cons_ok rfl rfl rfl) (gTuple_ns _ _)) rfl rfl) rfl (gAppD (by unfold ptD; rw [List.length_map]; omega)) rfl)
    · have ns := (seen_iff h hj).mpr c
      rw [decide_eq_true ns] at g
      refine ⟨ciE a (ptD (pts n a (j + 1))) (pts n a (j + 1)).flatten (some (.int ((j + 1 : Nat) : Int))) x4 x5, ?_, _, _, _, rfl⟩
      rw [pts_succ, if_neg c]
      exact (if_f (b_ok (op_ok rfl rfl rfl g))).trans rfl
  rw [nsD_len, List.length_range', Nat.zero_add] at hf
  rw [ci_split]
  refine run_at (ρ0 := [some (.tup (nsD a)), none, none, none, none, none]) (ρ := [some (.tup (nsD a)), none, some (.dct true false (snD (pts n a n).flatten)), x3, x4, x5]) rfl rfl ?_
  rw [seq_nx (ρ' := [some (.tup (nsD a)), some (.lst true []), none, none, none, none]) (set_to (lst_ok (ds := []) rfl rfl) rfl)]
  rw [seq_nx (ρ' := ciE a [] [] none none none) rfl]
  have it0 := nd_one (n := n) (ρ := ciE a [] [] none none none) (fr := (fCons [] [] (fC (.int 1)) (fCons [] [] (fOp [] [] gAdd (fCl gLen (fCons [0] [] (fVar 0) fNil)) (fC (.int 1))) fNil))) hn (cons_ok rfl (cons_ok (op_ok (cl_ok (cons_ok rfl rfl rfl) (gLen_ns a)) rfl rfl (gAdd_i _ _)) rfl rfl) rfl) (by rw [h.len])
  rw [seq_nx ((for_it it0).trans hf)]
  rfl
/-! ### _law_parts -/
abbrev paL : M D := (fOp [0] [] gIxA (fVar 0) (fOp [3] [] gSub (fOp [3] [] gIxA (fVar 3) (fOp [] [] gSub (fCl gLen (fCons [3] [] (fVar 3) fNil)) (fC (.int 1)))) (fC (.int 1))))
abbrev paT : M Bool := (fB (fOp [0] [] gNe paL (fVar 2)))
abbrev paW : MS := (sDrop (fMut 3 "list" gAppend (fCons [] [] (chk paL) fNil)))
abbrev paB : MS := (sSeq (sSet 3 (fLst (fCons [] [] (fAli 2) fNil))) (sSeq (sWhile paT paW) (sIf (fB (fOp [] [] gEq (fCl gMinA (fCons [3] [] (fVar 3) fNil)) (fVar 2))) (sDrop (fMut 1 "list" gAppend (fCons [] [] (fAli 3) fNil))) sNil)))
theorem pa_split : F__law_parts = runF 1 0 4 (sSeq (sSet 1 (fLst fNil)) (sSeq (sFor (iRg2 (fCons [] [] (fC (.int 1)) (fCons [] [] (fOp [] [] gAdd (fCl gLen (fCons [0] [] (fVar 0) fNil)) (fC (.int 1))) fNil))) (gNm 2) paB) (sRet (fMov 1)))) := rfl
abbrev paE (a : List Nat) (fd : List D) (x2 x3 : Option D) : Vl.Env := [some (.tup (nsD a)), some (.lst true fd), x2, x3]
theorem ix_map' {n : Nat} {a : List Nat} (h : IsP n a) {s : Nat} (j : Nat) : ix ((List.range (j + 1)).map (it a s)) j = it a s j := by
  rw [ix_map (by rw [List.length_range]; omega), ix_range (by omega)]
theorem pa_last {n : Nat} {a : List Nat} (h : IsP n a) (fd : List D) (x2 : Option D) {s : Nat} (h1 : 1 ≤ s) (h2 : s ≤ n) (j : Nat) : paL (paE a fd x2 (some (.lst true (nsD ((List.range (j + 1)).map (it a s)))))) = some (.int (it a s (j + 1) : Nat), paE a fd x2 (some (.lst true (nsD ((List.range (j + 1)).map (it a s)))))) := by
  have rg := it_rg h h1 h2 j
  have ll : ((List.range (j + 1)).map (it a s)).length = j + 1 := by rw [List.length_map, List.length_range]
  have e1 := atN (l := (List.range (j + 1)).map (it a s)) (j := (((List.range (j + 1)).map (it a s)).length : Nat) - 1) j (by rw [ll]; omega) (by rw [ll]; omega)
  rw [ix_map' h j] at e1
  have e2 := atN (l := a) (j := ((it a s j : Nat) : Int) - 1) (it a s j - 1) (by omega) (by rw [h.len]; omega)
  exact ixt_ok rfl (op_ok (ixl_ok rfl (op_ok (len_call rfl) rfl rfl (gSub_i _ _)) rfl e1) rfl rfl (gSub_i _ _)) rfl e2
end G09

namespace Vl
open PySem PySem.Spec PyProof.Rows L2
theorem for_invG {g : D → Vl.Env → Option Vl.Env} {body : MS} (I : Nat → Vl.Env → Prop) : ∀ (ds : List D) (k : Nat) (ρ : Vl.Env), I k ρ → (∀ j d ρ, ds[j]? = some d → I (k + j) ρ → ∃ ρ1 ρ', g d ρ = some ρ1 ∧ body ρ1 = some (.nx ρ') ∧ I (k + j + 1) ρ') → ∃ ρ', forL g body ds ρ = some (.nx ρ') ∧ I (k + ds.length) ρ'
  | [], k, ρ, h, _ => ⟨ρ, rfl, h⟩
  | d :: ds, k, ρ, h, hs => by
    obtain ⟨ρ1, ρ2, h1, h2, h3⟩ := hs 0 d ρ rfl h
    obtain ⟨ρ3, h4, h5⟩ := for_invG I ds (k + 1) ρ2 h3 fun j e ρ' he hi => by
      have := hs (j + 1) e ρ' he (by rw [show k + (j + 1) = k + 1 + j by omega]; exact hi)
      rw [show k + (j + 1) = k + 1 + j by omega] at this
      exact this
    refine ⟨ρ3, ?_, by rw [List.length_cons, show k + (ds.length + 1) = k + 1 + ds.length by omega]; exact h5⟩
    rw [forL_nx h1 h2]
    exact h4
end Vl
namespace G09
open PySem PySem.Spec PyProof.Rows L2 Vl Pm
theorem inD_ns (l : List Nat) (t : Nat) : inD (nsD l) (.int (t : Nat)) = decide (t ∈ l) := by
  induction l with
  | nil => rfl
  | cons a l ih =>
    show (Vl.pyEq (.int (a : Nat)) (.int (t : Nat)) || inD (nsD l) _) = _
    rw [ih]
    unfold Vl.pyEq
    simp only [D.toP, PyData.eqv]
    by_cases h : a = t
    · subst h; simp
    · have h2 : ¬ (t = a) := fun z => h z.symm
      have h3 : ¬ ((a : Int) = (t : Int)) := by omega
      simp [h2, h3]
theorem isIn_l {d : D} {o : Bool} {l : List D} (h1 : eqOk d = true) (h2 : eqOk (.lst o l) = true) : isIn d (.lst o l) = some (inD l d) := by
  show (if (eqOk d && eqOk (.lst o l)) = true then some (inD l d) else none) = _
  rw [h1, h2, if_pos (by rfl)]
theorem gIn_ns (l : List Nat) (t : Nat) (o : Bool) : gIn (.int (t : Nat)) (.lst o (nsD l)) = some (.bl (decide (t ∈ l))) := by
  unfold gIn
  rw [isIn_l (by simp [eqOk, D.eok, D.dep]) (row_l o l).ok, inD_ns]
  rfl
theorem pa_while {n : Nat} {a : List Nat} (h : IsP n a) (hn : n ≤ 1000) (fd : List D) {s : Nat} (h1 : 1 ≤ s) (h2 : s ≤ n) : ∀ (d j : Nat), j + 1 + d = per n a s →
    whileN (d + 1) paT paW (paE a fd (some (.int (s : Nat))) (some (.lst true (nsD ((List.range (j + 1)).map (it a s)))))) = some (.nx (paE a fd (some (.int (s : Nat))) (some (.lst true (nsD (orb n a s))))))
  | 0, j, e => by
    obtain ⟨p1, p2, p3, p4⟩ := per_ok h h1 h2
    have ej : j + 1 = per n a s := by omega
    rw [while_f (b_ok (op_ok (pa_last h fd _ h1 h2 j) rfl rfl ((gNe_i _ _).trans (by rw [ej, p3, decide_eq_true rfl]; rfl))))]
    show some (Res.nx _) = some (Res.nx _)
    rw [ej]
    rfl
  | d + 1, j, e => by
    obtain ⟨p1, p2, p3, p4⟩ := per_ok h h1 h2
    have ne := p4 (j + 1) (by omega) (by omega)
    have ne' : ¬ ((it a s (j + 1) : Nat) : Int) = (s : Nat) := by omega
    rw [while_t (ρ1 := paE a fd (some (.int (s : Nat))) (some (.lst true (nsD ((List.range (j + 1)).map (it a s)))))) (ρ2 := paE a fd (some (.int (s : Nat))) (some (.lst true (nsD ((List.range (j + 1 + 1)).map (it a s)))))) (b_ok (op_ok (pa_last h fd _ h1 h2 j) rfl rfl ((gNe_i _ _).trans (by rw [decide_eq_false ne']; rfl)))) ?_]
    · exact pa_while h hn fd h1 h2 d (j + 1) (by omega)
    · rw [range_snoc (it a s) (j + 1)]
      exact drop_ok (mut_ok rfl rfl (cons_ok (chk_ok (pa_last h fd _ h1 h2 j) rfl) rfl rfl) rfl (gApp_ns _ _ (by rw [List.length_map, List.length_range]; omega)) rfl)
def flD (P : List (List Nat)) : List D := P.map fun c => .lst false (nsD c)
theorem flD_app (P : List (List Nat)) (c : List Nat) : flD (P ++ [c]) = flD P ++ [.lst false (nsD c)] := by unfold flD; rw [List.map_append]; rfl
theorem no_fl : ∀ P : List (List Nat), D.noOwnL (flD P) = true
  | [] => rfl
  | c :: r => by
    show (D.noOwn (.lst false (nsD c)) && D.noOwnL (flD r)) = true
    rw [no_fl r, show D.noOwn (.lst false (nsD c)) = true from no_ns c]
    rfl
theorem ints_ns : ∀ l : List Nat, ints? (nsD l) = some (l.map Int.ofNat)
  | [] => rfl
  | k :: r => by show (ints? (nsD r)).bind _ = _; rw [ints_ns r]; rfl
theorem gMin_orb {n : Nat} {a : List Nat} (h : IsP n a) {s : Nat} (h1 : 1 ≤ s) (h2 : s ≤ n) : ∃ x : Nat, gMinA [.lst true (nsD (orb n a s))] = some (.int (x : Nat)) ∧ (x = s ↔ lst n a s) := by
  have m := orb_self h h1 h2
  obtain ⟨y, hy⟩ : ∃ y, minI ((orb n a s).map Int.ofNat) = some y := by
    cases e : (orb n a s).map Int.ofNat with
    | nil =>
      have e := congrArg List.length e
      rw [List.length_map] at e
      have := List.length_pos_of_mem m
      simp at e
      rw [e] at this
      simp at this
    | cons u r => exact ⟨_, rfl⟩
  obtain ⟨y1, y2⟩ := minI_ok _ _ hy
  obtain ⟨x, x1, rfl⟩ := List.mem_map.mp y1
  refine ⟨x, ?_, ?_⟩
  · show (ints? (nsD (orb n a s))).bind _ = _
    rw [ints_ns, Option.bind_some, hy]
    rfl
  · have y3 : ∀ v ∈ orb n a s, x ≤ v := fun v hv => by
      have := y2 (Int.ofNat v) (List.mem_map_of_mem hv)
      have : (x : Int) ≤ (v : Int) := this
      omega
    constructor
    · rintro rfl; exact y3
    · intro l
      have := l x x1
      have := y3 s m
      omega
theorem parts_ok {n : Nat} {a : List Nat} (h : IsP n a) (hn : n ≤ 1000) : F__law_parts [.tup (nsD a)] = some (.lst true (flD (pts n a n)), []) := by
  obtain ⟨ρ', hf, x2, x3, rfl⟩ := for_inv (i := 2) (body := paB) (fun k ρ => ∃ x2 x3, ρ = paE a (flD (pts n a k)) x2 x3) (nsD (List.range' 1 n)) 0 (paE a [] none none) ⟨none, none, by simp [pts, flD]⟩ fun j d ρ hd hI => by
    obtain ⟨x2, x3, rfl⟩ := hI
    obtain ⟨hj, rfl⟩ := ns_get hd
    rw [List.length_range'] at hj
    rw [ix_id hj, Nat.zero_add]
    have pl := pts_len (a := a) (n := n) h j
    have s1 : 1 ≤ j + 1 := by omega
    have s2 : j + 1 ≤ n := by omega
    obtain ⟨p1, p2, p3, p4⟩ := per_ok h s1 s2
    have w := pa_while h hn (flD (pts n a j)) s1 s2 (per n a (j + 1) - 1) 0 (by omega)
    have w := sWhile_of (show per n a (j + 1) - 1 + 1 ≤ fuel by unfold fuel; omega) w
    obtain ⟨x, g1, g2⟩ := gMin_orb h s1 s2
    have e1 : sSet 3 (fLst (fCons [] [] (fAli 2) fNil)) (paE a (flD (pts n a j)) (some (.int ((j + 1 : Nat) : Int))) x3) = some (.nx (paE a (flD (pts n a j)) (some (.int ((j + 1 : Nat) : Int))) (some (.lst true (nsD ((List.range (0 + 1)).map (it a (j + 1)))))))) :=
      set_to (lst_ok (cons_ok (ali_ok rfl rfl) rfl rfl) rfl) rfl
    by_cases c : lst n a (j + 1)
    · have ex := g2.mpr c
      refine ⟨paE a (flD (pts n a (j + 1))) (some (.int ((j + 1 : Nat) : Int))) (some (.lst false (nsD (orb n a (j + 1))))), ?_, _, _, rfl⟩
      rw [pts_succ, if_pos c, flD_app]
      refine (seq_nx e1).trans ?_
      refine (seq_nx w).trans ?_
      refine (if_t (b_ok (op_ok (cl_ok (cons_ok rfl rfl rfl) g1) rfl rfl ((gEq_i _ _).trans (by rw [ex, decide_eq_true rfl]))))).trans ?_
      have al : fAli 3 (paE a (flD (pts n a j)) (some (.int ((j + 1 : Nat) : Int))) (some (.lst true (nsD (orb n a (j + 1)))))) = some (.lst false (nsD (orb n a (j + 1))), paE a (flD (pts n a j)) (some (.int ((j + 1 : Nat) : Int))) (some (.lst false (nsD (orb n a (j + 1)))))) := by
        have e := frz_ns (orb n a (j + 1))
        show some (D.lst false (D.frzL (nsD (orb n a (j + 1)))), [some (D.tup (nsD a)), some (D.lst true (flD (pts n a j))), some (.int ((j + 1 : Nat) : Int)), some (D.lst false (D.frzL (nsD (orb n a (j + 1)))))]) = _
        rw [e]
      exact drop_ok (mut_ok rfl rfl (cons_ok al rfl rfl) rfl (gAppD (by unfold flD; rw [List.length_map]; omega)) rfl)
    · have ex : ¬ x = j + 1 := fun e => c (g2.mp e)
      have ex' : ¬ ((x : Nat) : Int) = ((j + 1 : Nat) : Int) := by omega
      refine ⟨paE a (flD (pts n a (j + 1))) (some (.int ((j + 1 : Nat) : Int))) (some (.lst true (nsD (orb n a (j + 1))))), ?_, _, _, rfl⟩
      rw [pts_succ, if_neg c]
      refine (seq_nx e1).trans ?_
      refine (seq_nx w).trans ?_
      exact (if_f (b_ok (op_ok (cl_ok (cons_ok rfl rfl rfl) g1) rfl rfl ((gEq_i _ _).trans (by rw [decide_eq_false ex']))))).trans rfl
  rw [nsD_len, List.length_range', Nat.zero_add] at hf
  rw [pa_split]
  refine run_at (ρ0 := [some (.tup (nsD a)), none, none, none]) (ρ := [some (.tup (nsD a)), none, x2, x3]) rfl rfl ?_
  rw [seq_nx (ρ' := paE a [] none none) (set_to (lst_ok (ds := []) rfl rfl) rfl)]
  have it0 := nd_one (n := n) (ρ := paE a [] none none) (fr := (fCons [] [] (fC (.int 1)) (fCons [] [] (fOp [] [] gAdd (fCl gLen (fCons [0] [] (fVar 0) fNil)) (fC (.int 1))) fNil))) hn (cons_ok rfl (cons_ok (op_ok (cl_ok (cons_ok rfl rfl rfl) (gLen_ns a)) rfl rfl (gAdd_i _ _)) rfl rfl) rfl) (by rw [h.len])
  rw [seq_nx ((for_it it0).trans hf)]
  rfl
theorem ccount_ok {n : Nat} {w : List Int} (hn : n ≤ 1000) (hw : Wd n w) : F_component_count [brD (n : Nat) w] = some (.int ((pts n (ord n w) n).length : Nat), []) := by
  have e : gLen [.lst true (ptD (pts n (ord n w) n))] = some (.int ((pts n (ord n w) n).length : Nat)) := by
    rw [gLen_l]
    unfold ptD
    rw [List.length_map]
  exact run_at (ρ0 := [some (brD (n : Nat) w)]) (ρ := [some (brD (n : Nat) w)]) rfl rfl (ret_ok (cl_ok (cons_ok (call_ok (cons_ok (call_ok (cons_ok rfl rfl rfl) (frzL1 (frz_br _ _)) (noL1 (no_br _ _)) (order_ok hn hw)) rfl rfl) (frzL1 (frz_tns _)) (noL1 (no_ns _)) (circles_ok (ord_isP hw) hn)) rfl rfl) e))
end G09

namespace G09
open PySem PySem.Spec PyProof.Rows L2 Vl Pm
def hmD (l : List (Nat × Nat)) : List (D × D) := l.map fun p => (.int (p.1 : Nat), .int (p.2 : Nat))
theorem hasD_hm (l : List (Nat × Nat)) (v : Nat) : hasD (hmD l) (.int (v : Nat)) = decide (v ∈ l.map (·.1)) := by
  induction l with
  | nil => rfl
  | cons k r ih =>
    show (decide (((k.1 : Nat) : Int) = (v : Nat)) || hasD (hmD r) (.int (v : Nat))) = _
    have e : ((k.1 : Nat) : Int) = (v : Nat) ↔ v = k.1 := by omega
    rw [ih, Bool.eq_iff_iff, Bool.or_eq_true, decide_eq_true_iff, decide_eq_true_iff, decide_eq_true_iff, List.map_cons, List.mem_cons, e]
theorem noP_hm (l : List (Nat × Nat)) : D.noOwnP (hmD l) = true := by
  induction l with
  | nil => rfl
  | cons k r ih => exact ih
theorem gSet_hm {l : List (Nat × Nat)} {v m : Nat} (h : v ∉ l.map (·.1)) (hl : l.length ≤ 100000) : gSet (.dct true false (hmD l)) (.int (v : Nat)) (.int (m : Nat)) = some (.dct true false (hmD (l ++ [(v, m)]))) := by
  show (if (D.noOwnP (hmD l) && szOk (hmD l).length) = true then some (D.dct true false (putD (hmD l) (.int (v : Nat)) (.int (m : Nat)))) else none) = _
  have e : putD (hmD l) (.int (v : Nat)) (.int (m : Nat)) = hmD (l ++ [(v, m)]) := by
    unfold putD
    rw [hasD_hm, decide_eq_false h, if_neg Bool.false_ne_true]
    unfold hmD
    rw [List.map_append]
    rfl
  rw [noP_hm, show (hmD l).length = l.length from List.length_map .., show szOk l.length = true from decide_eq_true hl, if_pos (by rfl), e]
def hmL : Nat → List (List Nat) → List (Nat × Nat)
  | _, [] => []
  | m, c :: r => c.map (fun v => (v, m)) ++ hmL (m + 1) r
theorem hmL_fst : ∀ (m : Nat) (P : List (List Nat)), (hmL m P).map (·.1) = P.flatten
  | _, [] => rfl
  | m, c :: r => by
    unfold hmL
    rw [List.map_append, hmL_fst (m + 1) r, List.map_map, List.flatten_cons]
    congr 1
    exact List.map_id'' (fun _ => rfl) c
theorem hmL_len (m : Nat) (P : List (List Nat)) : (hmL m P).length = P.flatten.length := by
  rw [← hmL_fst m P, List.length_map]
theorem look_hm : ∀ (P : List (List Nat)) (m v : Nat), v ∈ P.flatten → lookD (hmD (hmL m P)) (.int (v : Nat)) = some (.int ((m + hix P v : Nat) : Int))
  | [], m, v, h => by simp at h
  | c :: r, m, v, h => by
    have ap : ∀ (A : List Nat) (B : List (Nat × Nat)), lookD (hmD (A.map (fun v => (v, m)) ++ B)) (.int (v : Nat)) = if v ∈ A then some (.int (m : Nat)) else lookD (hmD B) (.int (v : Nat)) := by
      intro A B
      induction A with
      | nil => simp [hmD]
      | cons x A ih =>
        show (if decide (((x : Nat) : Int) = (v : Nat)) = true then some (D.int (m : Nat)) else lookD (hmD (A.map (fun v => (v, m)) ++ B)) (.int (v : Nat))) = _
        rw [ih]
        by_cases e : x = v
        · subst e; simp
        · have e' : ¬ ((x : Nat) : Int) = (v : Nat) := by omega
          have e2 : ¬ v = x := fun z => e z.symm
          simp [e', e2]
    unfold hmL hix
    rw [ap]
    by_cases e : v ∈ c
    · rw [if_pos e, if_pos e, Nat.add_zero]
    · rw [if_neg e, if_neg e]
      rw [List.flatten_cons, List.mem_append] at h
      rw [look_hm r (m + 1) v (h.resolve_left e)]
      congr 3
      omega
/-! ### matrices -/
def mxD (m : Nat) (M : Nat → Nat → Int) : List D := (List.range m).map fun i => .lst true ((List.range m).map fun j => .int (M i j))
def up (M : Nat → Nat → Int) (i j : Nat) (z : Int) : Nat → Nat → Int := fun a b => if a = i then (if b = j then z else M i b) else M a b
theorem set_range {f : Nat → D} {m i : Nat} {x : D} : ((List.range m).map f).set i x = (List.range m).map fun k => if k = i then x else f k := by
  refine List.ext_getElem? fun k => ?_
  rw [List.getElem?_set, List.getElem?_map, List.getElem?_map, List.length_map, List.length_range]
  by_cases hk : k < m
  · rw [List.getElem?_range hk]
    by_cases e : i = k
    · subst e; simp [hk]
    · have e' : ¬ k = i := fun z => e z.symm
      simp [e, e']
  · rw [List.getElem?_eq_none (by rw [List.length_range]; omega)]
    by_cases e : i = k
    · subst e; simp [hk]
    · simp [e]
theorem mx_congr {m : Nat} {M N : Nat → Nat → Int} (h : ∀ i j, i < m → j < m → M i j = N i j) : mxD m M = mxD m N := by
  unfold mxD
  refine List.map_congr_left fun i hi => ?_
  congr 1
  refine List.map_congr_left fun j hj => ?_
  rw [h i j (List.mem_range.mp hi) (List.mem_range.mp hj)]
theorem no_rw (m : Nat) (f : Nat → Int) : D.noOwnL ((List.range m).map fun j => D.int (f j)) = true := by
  have := noOwnL_ints ((List.range m).map f)
  rwa [List.map_map] at this
theorem nest_ok {m i j : Nat} {M : Nat → Nat → Int} {v : Int} (hi : i < m) (hj : j < m) : gNest gAddT (.lst true (mxD m M)) (.int (i : Nat)) (.int (j : Nat)) (.int v) = some (.lst true (mxD m (up M i j (M i j + v)))) := by
  have l1 : (mxD m M).length = m := by unfold mxD; rw [List.length_map, List.length_range]
  have g1 : (mxD m M)[i]? = some (.lst true ((List.range m).map fun j => .int (M i j))) := by
    unfold mxD
    rw [List.getElem?_map, List.getElem?_range hi]
    rfl
  have g2 : L2.atI ((List.range m).map fun j => D.int (M i j)) (j : Nat) = some (.int (M i j)) := atI_k (by rw [List.getElem?_map, List.getElem?_range hj]; rfl)
  show (ixN (mxD m M).length (i : Nat)).bind _ = _
  rw [l1, ixN_nat i rfl hi, Option.bind_some, g1, Option.bind_some]
  show (if D.noOwnL ((List.range m).map fun j => D.int (M i j)) = true then _ else none) = _
  rw [if_pos (no_rw m (M i)), g2, Option.bind_some]
  show (if true = true then (ixN ((List.range m).map fun j => D.int (M i j)).length (j : Nat)).bind _ else none) = _
  rw [if_pos rfl, List.length_map, List.length_range, ixN_nat j rfl hj, Option.bind_some, set_range]
  congr 2
  unfold mxD
  rw [set_range]
  refine List.map_congr_left fun k _ => ?_
  by_cases e : k = i
  · subst e
    rw [if_pos rfl]
    congr 1
    refine List.map_congr_left fun q _ => ?_
    unfold up
    rw [if_pos rfl]
    split <;> rfl
  · rw [if_neg e]
    congr 1
    refine List.map_congr_left fun q _ => ?_
    unfold up
    rw [if_neg e]
theorem up_lnk {P : List (List Nat)} {T : Tb} {q : (Nat × Nat) × Int} (hne : hix P q.1.1 ≠ hix P q.1.2) (i j : Nat) :
    up (up (fun i j => lnk P i j T) (hix P q.1.1) (hix P q.1.2) (lnk P (hix P q.1.1) (hix P q.1.2) T + q.2)) (hix P q.1.2) (hix P q.1.1) (up (fun i j => lnk P i j T) (hix P q.1.1) (hix P q.1.2) (lnk P (hix P q.1.1) (hix P q.1.2) T + q.2) (hix P q.1.2) (hix P q.1.1) + q.2) i j = lnk P i j (T ++ [q]) := by
  rw [lnk_snoc]
  generalize hix P q.1.1 = a at hne ⊢
  generalize hix P q.1.2 = b at hne ⊢
  have hne' : ¬ b = a := fun e => hne e.symm
  unfold up
  by_cases e1 : i = b
  · subst e1
    by_cases e2 : j = a
    · subst e2
      simp [hne, hne']
    · have e3 : ¬ a = j := fun e => e2 e.symm
      simp [hne, hne', e2, e3]
  · have e1' : ¬ b = i := fun e => e1 e.symm
    by_cases e2 : i = a
    · subst e2
      by_cases e3 : j = b
      · subst e3
        simp [hne]
      · have e3' : ¬ b = j := fun e => e3 e.symm
        simp [hne, hne', e3, e3', e1']
    · have e2' : ¬ a = i := fun e => e2 e.symm
      simp [e1, e2, e1', e2']
theorem same_lnk {P : List (List Nat)} {T : Tb} {q : (Nat × Nat) × Int} (he : hix P q.1.1 = hix P q.1.2) (i j : Nat) : lnk P i j (T ++ [q]) = lnk P i j T := by
  rw [lnk_snoc, he]
  by_cases c : i ≠ j ∧ ((hix P q.1.2 = i ∧ hix P q.1.2 = j) ∨ (hix P q.1.2 = j ∧ hix P q.1.2 = i))
  · exfalso
    omega
  · rw [if_neg c]
def lkD (P : List (List Nat)) (T : Tb) : D := .tup ((List.range P.length).map fun i => .tup ((List.range P.length).map fun j => .int (lnk P i j T)))
/-! ### braid_linking_rows -/
abbrev brG1 : D → Vl.Env → Option Vl.Env := (gTp 2 (gsCons (gNm 3) (gsCons (gNm 4) gsNil)))
abbrev brB1 : MS := (sFor (iSeq (fVar 4)) (gNm 5) (sAsg (gSt 2 (fVar 5)) (fVar 3)))
abbrev brG2 : D → Vl.Env → Option Vl.Env := (gTp 2 (gsCons (gNm 8) (gsCons (gNm 5) gsNil)))
abbrev brB2 : MS := (sSeq (sSet 9 (chk (fOp [2] [] gIxA (fVar 2) (fOp [8] [] gIxA (fVar 8) (fC (.int 0)))))) (sSeq (sSet 10 (chk (fOp [2] [] gIxA (fVar 2) (fOp [8] [] gIxA (fVar 8) (fC (.int 1)))))) (sIf (fB (fOp [9] [] gNe (fVar 9) (fVar 10))) (sSeq (sAugSS 6 gAddT (fVar 9) (fVar 10) (fVar 5)) (sAugSS 6 gAddT (fVar 10) (fVar 9) (fVar 5))) sNil)))
abbrev brC : M D := (fComp [7] (iSeq (fVar 1)) (gNm 7) fYes (fOp [] [] gMul (fLst (fCons [] [] (fC (.int 0)) fNil)) (fCl gLen (fCons [1] [] (fVar 1) fNil))))
abbrev brR : M D := (fCl gTuple (fCons [] [] (fComp [11] (iSeq (fAli 6)) (gNm 11) fYes (fCl gTuple (fCons [11] [] (fVar 11) fNil))) fNil))
theorem br_split : F_braid_linking_rows = runF 1 0 12 (sSeq (sSet 1 (fCall F_circles (fCons [] [] (fCall F_order_of (fCons [0] [] (fVar 0) fNil)) fNil))) (sSeq (sSet 2 fDnew) (sSeq (sFor (iEnm (fVar 1)) brG1 brB1) (sSeq (sSet 6 brC) (sSeq (sFor (iItT (fCall F_crossing_table (fCons [0] [] (fVar 0) fNil))) brG2 brB2) (sRet brR)))))) := rfl
abbrev brE (b ps : D) (hm : List (Nat × Nat)) (x3 x4 x5 x6 x8 x9 x10 : Option D) : Vl.Env := [some b, some ps, some (.dct true false (hmD hm)), x3, x4, x5, x6, none, x8, x9, x10, none]
theorem items_ns (c : List Nat) : itemsOf (.tup (nsD c)) = some (nsD c) := if_pos (no_ns c)
theorem br_home (b ps : D) : ∀ (P : List (List Nat)) (m : Nat) (H : List (Nat × Nat)) (x3 x4 x5 : Option D), (H.map (·.1) ++ P.flatten).Nodup → H.length + P.flatten.length ≤ 10000 → (∀ c ∈ P, c.length ≤ 10000) →
    ∃ y3 y4 y5, forL brG1 brB1 (enumD m (ptD P)) (brE b ps H x3 x4 x5 none none none none) = some (.nx (brE b ps (H ++ hmL m P) y3 y4 y5 none none none none))
  | [], m, H, x3, x4, x5, _, _, _ => ⟨x3, x4, x5, by unfold hmL; rw [List.append_nil]; rfl⟩
  | c :: r, m, H, x3, x4, x5, nd, hl, hc => by
    have nd0 := nd
    rw [List.flatten_cons, ← List.append_assoc] at nd
    rw [List.flatten_cons, List.length_append] at hl
    have ndc : (H.map (·.1) ++ c).Nodup := (List.nodup_append.mp nd).1
    obtain ⟨ρ', hf, y5, rfl⟩ := for_inv (i := 5) (body := sAsg (gSt 2 (fVar 5)) (fVar 3)) (fun k ρ => ∃ y5, ρ = brE b ps (H ++ (c.take k).map (fun v => (v, m))) (some (.int (m : Nat))) (some (.tup (nsD c))) y5 none none none none) (nsD c) 0 (brE b ps H (some (.int (m : Nat))) (some (.tup (nsD c))) x5 none none none none) ⟨x5, by simp⟩ fun j d ρ hd hI => by
      obtain ⟨z5, rfl⟩ := hI
      obtain ⟨hj, rfl⟩ := ns_get hd
      rw [Nat.zero_add]
      have tk : c.take (j + 1) = c.take j ++ [ix c j] := by rw [List.take_succ, ix_some hj]; rfl
      have fr : ix c j ∉ (H ++ (c.take j).map (fun v => (v, m))).map (·.1) := by
        have e : c = (c.take j ++ [ix c j]) ++ c.drop (j + 1) := by rw [← tk, List.take_append_drop]
        rw [e, ← List.append_assoc, ← List.append_assoc] at ndc
        have n1 := (List.nodup_append.mp ndc).1
        have n2 := (List.nodup_append.mp n1).2.2
        rw [List.map_append, List.map_map]
        intro hm
        have e2 : ((c.take j).map ((fun x : Nat × Nat => x.1) ∘ fun v => (v, m))) = c.take j := List.map_id'' (fun _ => rfl) _
        rw [e2] at hm
        exact n2 _ hm _ (List.mem_singleton.mpr rfl) rfl
      have ll : (H ++ (c.take j).map (fun v => (v, m))).length ≤ 100000 := by
        rw [List.length_append, List.length_map, List.length_take]
        omega
      refine ⟨brE b ps (H ++ (c.take (j + 1)).map (fun v => (v, m))) (some (.int (m : Nat))) (some (.tup (nsD c))) (some (.int (ix c j : Nat))) none none none none, ?_, _, rfl⟩
      rw [tk, List.map_append, ← List.append_assoc]
      exact asg_ok rfl rfl (st_ok rfl rfl rfl (gSet_hm fr ll) rfl)
    rw [nsD_len, Nat.zero_add, List.take_length] at hf
    obtain ⟨y3, y4, z5, ih⟩ := br_home b ps r (m + 1) (H ++ c.map (fun v => (v, m))) (some (.int (m : Nat))) (some (.tup (nsD c))) y5 (by
      rw [List.map_append, List.map_map]
      have e2 : (c.map ((fun x : Nat × Nat => x.1) ∘ fun v => (v, m))) = c := List.map_id'' (fun _ => rfl) _
      rw [e2]
      exact nd) (by rw [List.length_append, List.length_map]; omega) (fun d hd => hc d (List.mem_cons_of_mem _ hd))
    refine ⟨y3, y4, z5, ?_⟩
    show forL brG1 brB1 (.tup [.int (m : Nat), .tup (nsD c)] :: enumD (m + 1) (ptD r)) _ = _
    rw [forL_nx (ρ1 := brE b ps H (some (.int (m : Nat))) (some (.tup (nsD c))) x5 none none none none) (tp2_ok rfl rfl) ((for_it (items := nsD c) (seq_it (d := .tup (nsD c)) rfl (items_ns c))).trans hf), ih]
    rw [show hmL m (c :: r) = c.map (fun v => (v, m)) ++ hmL (m + 1) r from rfl, List.append_assoc]
theorem home_at {P : List (List Nat)} {v : Nat} (hv : v ∈ P.flatten) : gIxA (.dct true false (hmD (hmL 0 P))) (.int (v : Nat)) = some (.int (hix P v : Nat)) := by
  show lookD (hmD (hmL 0 P)) (.int (v : Nat)) = _
  rw [look_hm P 0 v hv, Nat.zero_add]
theorem br_step {b ps : D} {P : List (List Nat)} {T : Tb} {q : (Nat × Nat) × Int} (h1 : q.1.1 ∈ P.flatten) (h2 : q.1.2 ∈ P.flatten) (x3 x4 x9 x10 : Option D) :
    ∃ y9 y10, brB2 (brE b ps (hmL 0 P) x3 x4 (some (.int q.2)) (some (.lst true (mxD P.length fun i j => lnk P i j T))) (some (pD q.1)) x9 x10) = some (.nx (brE b ps (hmL 0 P) x3 x4 (some (.int q.2)) (some (.lst true (mxD P.length fun i j => lnk P i j (T ++ [q])))) (some (pD q.1)) y9 y10)) := by
  refine ⟨some (.int (hix P q.1.1 : Nat)), some (.int (hix P q.1.2 : Nat)), ?_⟩
  refine (seq_nx (ρ' := brE b ps (hmL 0 P) x3 x4 (some (.int q.2)) (some (.lst true (mxD P.length fun i j => lnk P i j T))) (some (pD q.1)) (some (.int (hix P q.1.1 : Nat))) x10) (set_to (chk_ok (op_ok rfl (ixt_ok rfl rfl rfl rfl) rfl (home_at h1)) rfl) rfl)).trans ?_
  refine (seq_nx (ρ' := brE b ps (hmL 0 P) x3 x4 (some (.int q.2)) (some (.lst true (mxD P.length fun i j => lnk P i j T))) (some (pD q.1)) (some (.int (hix P q.1.1 : Nat))) (some (.int (hix P q.1.2 : Nat)))) (set_to (chk_ok (op_ok rfl (ixt_ok rfl rfl rfl rfl) rfl (home_at h2)) rfl) rfl)).trans ?_
  by_cases c : hix P q.1.1 = hix P q.1.2
  · rw [mx_congr (fun i j _ _ => same_lnk c i j)]
    exact (if_f (b_ok (op_ok rfl rfl rfl ((gNe_i _ _).trans (by rw [c, decide_eq_true rfl]; rfl))))).trans rfl
  · have c' : ¬ ((hix P q.1.1 : Nat) : Int) = (hix P q.1.2 : Nat) := by omega
    refine (if_t (b_ok (op_ok rfl rfl rfl ((gNe_i _ _).trans (by rw [decide_eq_false c']; rfl))))).trans ?_
    have aug : ∀ {N : Nat → Nat → Int} {i j : Nat} {f1 f2 : M D} {v : Int} {ρ : Vl.Env}, i < P.length → j < P.length → Env.at ρ 6 = some (.lst true (mxD P.length N)) → f1 ρ = some (.int (i : Nat), ρ) → f2 ρ = some (.int (j : Nat), ρ) → Env.at ρ 5 = some (.int v) → sAugSS 6 gAddT f1 f2 (fVar 5) ρ = some (.nx (ρ.set 6 (some (.lst true (mxD P.length (up N i j (N i j + v))))))) := by
      intro N i j f1 f2 v ρ hi hj h6 e1 e2 h5
      show (Env.at ρ 6).bind _ = _
      rw [h6, Option.bind_some, e1, Option.bind_some, e2, Option.bind_some, var_ok h5, Option.bind_some, nest_ok hi hj]
      rfl
    refine (seq_nx (aug (N := fun i j => lnk P i j T) (hix_lt h1) (hix_lt h2) rfl rfl rfl rfl)).trans ?_
    rw [aug (N := up (fun i j => lnk P i j T) (hix P q.1.1) (hix P q.1.2) (lnk P (hix P q.1.1) (hix P q.1.2) T + q.2)) (hix_lt h2) (hix_lt h1) rfl rfl rfl rfl]
    rw [mx_congr (fun i j _ _ => up_lnk c i j)]
    rfl
end G09

namespace G09
open PySem PySem.Spec PyProof.Rows L2 Vl Pm
theorem ptD_len (P : List (List Nat)) : (ptD P).length = P.length := List.length_map ..
theorem flD_len (P : List (List Nat)) : (flD P).length = P.length := List.length_map ..
theorem map_take_snoc {T : Tb} {j : Nat} {q : (Nat × Nat) × Int} (h : T[j]? = some q) : T.take (j + 1) = T.take j ++ [q] := by rw [List.take_succ, h]; rfl
theorem items_pt (P : List (List Nat)) (o : Bool) : itemsOf (.lst o (ptD P)) = some (ptD P) := if_pos (no_pt P)
theorem items_fl (P : List (List Nat)) (o : Bool) : itemsOf (.lst o (flD P)) = some (flD P) := if_pos (no_fl P)
theorem rows_frz (m : Nat) (f : Nat → Nat → Int) : ∀ L : List Nat, D.frzL (L.map fun i => D.lst true ((List.range m).map fun j => .int (f i j))) = L.map fun i => D.lst false ((List.range m).map fun j => .int (f i j))
  | [] => rfl
  | i :: r => by
    show D.lst false (D.frzL ((List.range m).map fun j => D.int (f i j))) :: D.frzL _ = _
    have e := frzL_ints ((List.range m).map (f i))
    rw [List.map_map] at e
    rw [show D.frzL ((List.range m).map fun j => D.int (f i j)) = (List.range m).map fun j => D.int (f i j) from e, rows_frz m f r]
    rfl
theorem rows_no (m : Nat) (f : Nat → Nat → Int) : ∀ L : List Nat, D.noOwnL (L.map fun i => D.lst false ((List.range m).map fun j => .int (f i j))) = true
  | [] => rfl
  | i :: r => by
    show (D.noOwn (.lst false ((List.range m).map fun j => D.int (f i j))) && D.noOwnL _) = true
    rw [rows_no m f r, show D.noOwn (.lst false ((List.range m).map fun j => D.int (f i j))) = true from no_rw m (f i)]
    rfl
theorem rowt_no (m : Nat) (f : Nat → Nat → Int) : ∀ L : List Nat, D.noOwnL (L.map fun i => D.tup ((List.range m).map fun j => .int (f i j))) = true
  | [] => rfl
  | i :: r => by
    show (D.noOwn (.tup ((List.range m).map fun j => D.int (f i j))) && D.noOwnL _) = true
    rw [rowt_no m f r, show D.noOwn (.tup ((List.range m).map fun j => D.int (f i j))) = true from no_rw m (f i)]
    rfl
theorem linking_ok {n : Nat} {w : List Int} (hn : n ≤ 1000) (hw : Wd n w) (hl : w.length ≤ 1000) : F_braid_linking_rows [brD (n : Nat) w] = some (lkD (pts n (ord n w) n) (tab n w).2, []) := by
  have hO := ord_isP hw
  have hT := tab_ok hw
  have hTl := tab_len hw
  have hnd := pts_nd hO n (Nat.le_refl _)
  have hfl := flat_len hO (Nat.le_refl n)
  have hpl := pts_len hO (n := n) n
  have cov := fun (v : Nat) (h1 : 1 ≤ v) (h2 : v ≤ n) => cover hO h1 h2
  have cln : ∀ c ∈ pts n (ord n w) n, c.length ≤ 10000 := fun c hc => by have := pts_cl hO (Nat.le_refl n) hc; omega
  have ct := ctable_ok hn hw hl
  have e1 : fCall F_circles (fCons [] [] (fCall F_order_of (fCons [0] [] (fVar 0) fNil)) fNil) [some (brD (n : Nat) w), none, none, none, none, none, none, none, none, none, none, none] = some (.lst true (ptD (pts n (ord n w) n)), [some (brD (n : Nat) w), none, none, none, none, none, none, none, none, none, none, none]) :=
    call_ok (cons_ok (call_ok (cons_ok rfl rfl rfl) (frzL1 (frz_br _ _)) (noL1 (no_br _ _)) (order_ok hn hw)) rfl rfl) (frzL1 (frz_tns _)) (noL1 (no_ns _)) (circles_ok hO hn)
  generalize hP : pts n (ord n w) n = P at *
  obtain ⟨s2, hs2⟩ : ∃ T, (tab n w).2 = T := ⟨_, rfl⟩
  have hTk := hT.k
  rw [hs2] at ct hTl hTk
  rw [hs2]
  obtain ⟨y3, y4, y5, hh⟩ := br_home (brD (n : Nat) w) (.lst true (ptD P)) P 0 [] none none none (by simpa using hnd) (by show 0 + P.flatten.length ≤ 10000; omega) cln
  rw [List.nil_append] at hh
  have cm : brC (brE (brD (n : Nat) w) (.lst true (ptD P)) (hmL 0 P) y3 y4 y5 none none none none) = some (.lst true (mxD P.length fun i j => lnk P i j (s2.take 0)), brE (brD (n : Nat) w) (.lst true (ptD P)) (hmL 0 P) y3 y4 y5 none none none none) := by
    have gl : gLen [.lst true (ptD P)] = some (.int (P.length : Nat)) := by rw [gLen_l, ptD_len]
    have := fComp_all (i := 7) (ρ0 := brE (brD (n : Nat) w) (.lst true (ptD P)) (hmL 0 P) y3 y4 y5 none none none none) (ρ1 := brE (brD (n : Nat) w) (.lst true (ptD P)) (hmL 0 P) y3 y4 y5 none none none none) (fi := (iSeq (fVar 1))) (fe := (fOp [] [] gMul (fLst (fCons [] [] (fC (.int 0)) fNil)) (fCl gLen (fCons [1] [] (fVar 1) fNil)))) (items := ptD P) (fun _ => .lst true (nsD (List.replicate P.length 0)))
      (seq_it (d := .lst true (ptD P)) rfl (items_pt P true)) rfl (fun d _ => op_ok (lst_ok (cons_ok rfl rfl rfl) rfl) (cl_ok (cons_ok rfl rfl rfl) gl) rfl (gMul_rep P.length (by omega))) (by rw [ptD_len]; omega)
    have e0 : (ptD P).map (fun _ => D.lst true (nsD (List.replicate P.length 0))) = mxD P.length (fun i j => lnk P i j (s2.take 0)) := by
      unfold mxD
      rw [List.map_const', ptD_len]
      have e : (fun i => D.lst true ((List.range P.length).map fun j => .int (lnk P i j (s2.take 0)))) = fun _ => D.lst true (nsD (List.replicate P.length 0)) := by
        funext i
        show D.lst true _ = D.lst true _
        refine congrArg (D.lst true) ?_
        have : (fun j => D.int (lnk P i j (s2.take 0))) = fun _ => D.int ((0 : Nat) : Int) := by funext j; rfl
        rw [this, List.map_const', List.length_range, nsD_eq, List.map_replicate]
      rw [e, List.map_const', List.length_range]
    rw [e0] at this
    exact this
  have itm : iItT (fCall F_crossing_table (fCons [0] [] (fVar 0) fNil)) (brE (brD (n : Nat) w) (.lst true (ptD P)) (hmL 0 P) y3 y4 y5 (some (.lst true (mxD P.length fun i j => lnk P i j (s2.take 0)))) none none none) = some ((tD s2).map fun q => .tup [q.1, q.2], brE (brD (n : Nat) w) (.lst true (ptD P)) (hmL 0 P) y3 y4 y5 (some (.lst true (mxD P.length fun i j => lnk P i j (s2.take 0)))) none none none) := by
    have c := call_ok (ρ := brE (brD (n : Nat) w) (.lst true (ptD P)) (hmL 0 P) y3 y4 y5 (some (.lst true (mxD P.length fun i j => lnk P i j (s2.take 0)))) none none none) (fr := (fCons [0] [] (fVar 0) fNil)) (ds := [brD (n : Nat) w]) (cons_ok rfl rfl rfl) (frzL1 (frz_br _ _)) (noL1 (no_br _ _)) ct
    show (fCall F_crossing_table (fCons [0] [] (fVar 0) fNil) _).bind _ = _
    rw [c, Option.bind_some]
    show (if D.noOwnP (tD s2) = true then _ else none) = _
    rw [if_pos (noP_t s2)]
  obtain ⟨ρ', hf, z3, z4, z5, z8, z9, z10, rfl⟩ := for_invG (g := brG2) (body := brB2) (fun k ρ => ∃ x3 x4 x5 x8 x9 x10, ρ = brE (brD (n : Nat) w) (.lst true (ptD P)) (hmL 0 P) x3 x4 x5 (some (.lst true (mxD P.length fun i j => lnk P i j (s2.take k)))) x8 x9 x10) ((tD s2).map fun q => .tup [q.1, q.2]) 0 (brE (brD (n : Nat) w) (.lst true (ptD P)) (hmL 0 P) y3 y4 y5 (some (.lst true (mxD P.length fun i j => lnk P i j (s2.take 0)))) none none none) ⟨y3, y4, y5, none, none, none, rfl⟩ fun j d ρ hd hI => by
    obtain ⟨x3, x4, x5, x8, x9, x10, rfl⟩ := hI
    unfold tD at hd
    rw [List.map_map, List.getElem?_map] at hd
    obtain ⟨q, hq, rfl⟩ := Option.map_eq_some_iff.mp hd
    have qk := hTk q (List.mem_of_getElem? hq)
    rw [Nat.zero_add, map_take_snoc hq]
    obtain ⟨w9, w10, hb⟩ := br_step (b := brD (n : Nat) w) (ps := .lst true (ptD P)) (P := P) (T := s2.take j) (q := q) (cov _ qk.1 qk.2.1) (cov _ qk.2.2.1 qk.2.2.2) x3 x4 x9 x10
    exact ⟨_, _, tp2_ok rfl rfl, hb, _, _, _, _, _, _, rfl⟩
  rw [List.length_map, tD_len, Nat.zero_add, List.take_length] at hf
  rw [br_split]
  refine run_at (ρ0 := [some (brD (n : Nat) w), none, none, none, none, none, none, none, none, none, none, none]) (ρ := brE (brD (n : Nat) w) (.lst true (ptD P)) (hmL 0 P) z3 z4 z5 (some (.lst false ((List.range P.length).map fun i => .lst false ((List.range P.length).map fun j => .int (lnk P i j s2))))) z8 z9 z10) rfl rfl ?_
  rw [seq_nx (ρ' := [some (brD (n : Nat) w), some (.lst true (ptD P)), none, none, none, none, none, none, none, none, none, none]) (set_to e1 rfl)]
  rw [seq_nx (ρ' := brE (brD (n : Nat) w) (.lst true (ptD P)) [] none none none none none none none) rfl]
  rw [seq_nx (ρ' := brE (brD (n : Nat) w) (.lst true (ptD P)) (hmL 0 P) y3 y4 y5 none none none none) ?_]
  · rw [seq_nx (ρ' := brE (brD (n : Nat) w) (.lst true (ptD P)) (hmL 0 P) y3 y4 y5 (some (.lst true (mxD P.length fun i j => lnk P i j (s2.take 0)))) none none none) (set_to cm rfl)]
    rw [seq_nx ((for_it itm).trans hf)]
    refine ret_ok ?_
    have al : fAli 6 (brE (brD (n : Nat) w) (.lst true (ptD P)) (hmL 0 P) z3 z4 z5 (some (.lst true (mxD P.length fun i j => lnk P i j s2))) z8 z9 z10) = some (.lst false ((List.range P.length).map fun i => .lst false ((List.range P.length).map fun j => .int (lnk P i j s2))), brE (brD (n : Nat) w) (.lst true (ptD P)) (hmL 0 P) z3 z4 z5 (some (.lst false ((List.range P.length).map fun i => .lst false ((List.range P.length).map fun j => .int (lnk P i j s2))))) z8 z9 z10) := by
      have e := rows_frz P.length (fun i j => lnk P i j s2) (List.range P.length)
      show some (D.lst false (D.frzL (mxD P.length fun i j => lnk P i j s2)), brE (brD (n : Nat) w) (.lst true (ptD P)) (hmL 0 P) z3 z4 z5 (some (.lst false (D.frzL (mxD P.length fun i j => lnk P i j s2)))) z8 z9 z10) = _
      unfold mxD
      rw [e]
    have cc := fComp_all (i := 11) (ρ0 := brE (brD (n : Nat) w) (.lst true (ptD P)) (hmL 0 P) z3 z4 z5 (some (.lst true (mxD P.length fun i j => lnk P i j s2))) z8 z9 z10) (ρ1 := brE (brD (n : Nat) w) (.lst true (ptD P)) (hmL 0 P) z3 z4 z5 (some (.lst false ((List.range P.length).map fun i => .lst false ((List.range P.length).map fun j => .int (lnk P i j s2))))) z8 z9 z10) (fi := iSeq (fAli 6)) (fe := (fCl gTuple (fCons [11] [] (fVar 11) fNil))) (fun d => match d with | .lst _ l => .tup l | _ => d)
      (seq_it al (if_pos (rows_no P.length (fun i j => lnk P i j s2) (List.range P.length)))) rfl (fun d hd => by
        obtain ⟨i, _, rfl⟩ := List.mem_map.mp hd
        exact cl_ok (cons_ok rfl rfl rfl) (if_pos (no_rw P.length fun j => lnk P i j s2))) (by rw [List.length_map, List.length_range]; omega)
    refine cl_ok (cons_ok cc rfl rfl) ?_
    rw [List.map_map]
    have := rowt_no P.length (fun i j => lnk P i j s2) (List.range P.length)
    exact if_pos this
  · exact (for_it (items := enumD 0 (ptD P)) (show iEnm (fVar 1) _ = _ by
      show (itemsOf (.lst true (ptD P))).bind _ = _
      rw [items_pt]
      rfl)).trans hh
/-! ### _law_linking -/
abbrev llB3 : MS := (sIf (fAnd (fB (fOp [4] [] gNe (fVar 4) (fVar 6))) (fOr (fAnd (fB (fOp [8] [] gIn (fVar 8) (fVar 4))) (fB (fOp [9] [] gIn (fVar 9) (fVar 6)))) (fAnd (fB (fOp [8] [] gIn (fVar 8) (fVar 6))) (fB (fOp [9] [] gIn (fVar 9) (fVar 4)))))) (sSet 7 (fOp [7] [8, 9] gAdd (fVar 7) (fOp [2] [8, 9] gIxA (fVar 2) (fTup (fCons [] [9] (fAli 8) (fCons [] [] (fAli 9) fNil)))))) sNil)
abbrev llB2 : MS := (sSeq (sSet 7 (fC (.int 0))) (sSeq (sDk 2 (sFor (iKy 2) (gTp 2 (gsCons (gNm 8) (gsCons (gNm 9) gsNil))) llB3)) (sDrop (fMut 5 "list" gAppend (fCons [] [] (fAli 7) fNil)))))
abbrev llB1 : MS := (sSeq (sSet 5 (fLst fNil)) (sSeq (sFor (iSeq (fVar 1)) (gNm 6) llB2) (sDrop (fMut 3 "list" gAppend (fCons [] [] (fCl gTuple (fCons [5] [] (fVar 5) fNil)) fNil)))))
theorem ll_split : F__law_linking = runF 1 0 10 (sSeq (sSet 1 (fCall F__law_parts (fCons [] [] (fCall F__law_order_of (fCons [0] [] (fVar 0) fNil)) fNil))) (sSeq (sSet 2 (fCall F__law_table (fCons [0] [] (fVar 0) fNil))) (sSeq (sSet 3 (fLst fNil)) (sSeq (sFor (iSeq (fVar 1)) (gNm 4) llB1) (sRet (fCl gTuple (fCons [3] [] (fVar 3) fNil))))))) := rfl
abbrev llE (b : D) (P : List (List Nat)) (o : Bool) (T : Tb) (rs : List D) (x4 x5 x6 x7 x8 x9 : Option D) : Vl.Env := [some b, some (.lst true (flD P)), some (.dct o true (tD T)), some (.lst true rs), x4, x5, x6, x7, x8, x9]
theorem frzP_t : ∀ T : Tb, D.frzP (tD T) = tD T
  | [] => rfl
  | q :: r => by
    show (pD q.1, D.int q.2) :: D.frzP (tD r) = _
    rw [frzP_t r]
    rfl
theorem ll_step {b : D} {P : List (List Nat)} {T : Tb} {rs : List D} {x5 : Option D} (hn : P.flatten.Nodup) (hne : ∀ c ∈ P, ∃ v, v ∈ c) {i j : Nat} {c d : List Nat} (hc : P[i]? = some c) (hd : P[j]? = some d) {q : (Nat × Nat) × Int} (hq : look T q.1 = some q.2) (h1 : q.1.1 ∈ P.flatten) (h2 : q.1.2 ∈ P.flatten) (S : Tb) :
    llB3 (llE b P false T rs (some (.lst false (nsD c))) x5 (some (.lst false (nsD d))) (some (.int (lnk P i j S))) (some (.int (q.1.1 : Nat))) (some (.int (q.1.2 : Nat)))) = some (.nx (llE b P false T rs (some (.lst false (nsD c))) x5 (some (.lst false (nsD d))) (some (.int (lnk P i j (S ++ [q])))) (some (.int (q.1.1 : Nat))) (some (.int (q.1.2 : Nat))))) := by
  have i1 := hix_iff hn h1 hc
  have i2 := hix_iff hn h2 hd
  have i3 := hix_iff hn h1 hd
  have i4 := hix_iff hn h2 hc
  have ij : c = d ↔ i = j := by
    constructor
    · rintro rfl
      obtain ⟨v, hv⟩ := hne c (List.mem_of_getElem? hc)
      exact part_uniq hn hc hd hv hv
    · rintro rfl
      rw [hc] at hd
      exact Option.some.inj hd
  have g0 : ∀ ρ : Vl.Env, Env.at ρ 4 = some (.lst false (nsD c)) → Env.at ρ 6 = some (.lst false (nsD d)) → fB (fOp [4] [] gNe (fVar 4) (fVar 6)) ρ = some (!decide (i = j), ρ) := fun ρ e4 e6 => b_ok (op_ok (var_ok e4) (var_ok e6) (safe_r1 _ _) (((row_l false c).gNe (row_l false d)).trans (by
    congr 3
    rw [decide_eq_decide, ofNat_inj]
    exact ij)))
  have gi : ∀ (ρ : Vl.Env) (x y v : Nat) (l : List Nat), Env.at ρ x = some (.int (v : Nat)) → Env.at ρ y = some (.lst false (nsD l)) → fB (fOp [x] [] gIn (fVar x) (fVar y)) ρ = some (decide (v ∈ l), ρ) := fun ρ x y v l ex ey => b_ok (op_ok (var_ok ex) (var_ok ey) (safe_r1 _ _) (gIn_ns l v false))
  generalize hρ : llE b P false T rs (some (.lst false (nsD c))) x5 (some (.lst false (nsD d))) (some (.int (lnk P i j S))) (some (.int (q.1.1 : Nat))) (some (.int (q.1.2 : Nat))) = ρ
  have a4 : Env.at ρ 4 = some (.lst false (nsD c)) := by subst hρ; rfl
  have a6 : Env.at ρ 6 = some (.lst false (nsD d)) := by subst hρ; rfl
  have a8 : Env.at ρ 8 = some (.int (q.1.1 : Nat)) := by subst hρ; rfl
  have a9 : Env.at ρ 9 = some (.int (q.1.2 : Nat)) := by subst hρ; rfl
  have tst : (fAnd (fB (fOp [4] [] gNe (fVar 4) (fVar 6))) (fOr (fAnd (fB (fOp [8] [] gIn (fVar 8) (fVar 4))) (fB (fOp [9] [] gIn (fVar 9) (fVar 6)))) (fAnd (fB (fOp [8] [] gIn (fVar 8) (fVar 6))) (fB (fOp [9] [] gIn (fVar 9) (fVar 4)))))) ρ = some (decide (i ≠ j ∧ ((hix P q.1.1 = i ∧ hix P q.1.2 = j) ∨ (hix P q.1.1 = j ∧ hix P q.1.2 = i))), ρ) := by
    have g := g0 ρ a4 a6
    have t1 := gi ρ 8 4 _ _ a8 a4
    have t2 := gi ρ 9 6 _ _ a9 a6
    have t3 := gi ρ 8 6 _ _ a8 a6
    have t4 := gi ρ 9 4 _ _ a9 a4
    rw [show decide (q.1.1 ∈ c) = decide (hix P q.1.1 = i) from decide_eq_decide.mpr i1] at t1
    rw [show decide (q.1.2 ∈ d) = decide (hix P q.1.2 = j) from decide_eq_decide.mpr i2] at t2
    rw [show decide (q.1.1 ∈ d) = decide (hix P q.1.1 = j) from decide_eq_decide.mpr i3] at t3
    rw [show decide (q.1.2 ∈ c) = decide (hix P q.1.2 = i) from decide_eq_decide.mpr i4] at t4
    have an : ∀ {f g : M Bool} {k l : Bool}, f ρ = some (k, ρ) → g ρ = some (l, ρ) → fAnd f g ρ = some (k && l, ρ) := fun {f g k l} e1 e2 => by
      cases k
      · exact and_f e1
      · rw [and_t e1, e2]; rfl
    have orr : ∀ {f g : M Bool} {k l : Bool}, f ρ = some (k, ρ) → g ρ = some (l, ρ) → fOr f g ρ = some (k || l, ρ) := fun {f g k l} e1 e2 => by
      cases k
      · rw [or_f e1, e2]; rfl
      · exact or_t e1
    rw [an g (orr (an t1 t2) (an t3 t4))]
    congr 2
    by_cases e1 : i = j <;> by_cases e2 : hix P q.1.1 = i <;> by_cases e3 : hix P q.1.2 = j <;> by_cases e4 : hix P q.1.1 = j <;> by_cases e5 : hix P q.1.2 = i <;> simp [e1, e2, e3, e4, e5]
  rw [lnk_snoc]
  by_cases k : i ≠ j ∧ ((hix P q.1.1 = i ∧ hix P q.1.2 = j) ∨ (hix P q.1.1 = j ∧ hix P q.1.2 = i))
  · rw [decide_eq_true k] at tst
    rw [if_pos k]
    refine (if_t tst).trans ?_
    subst hρ
    have gx : gIxA (.dct false true (tD T)) (pD q.1) = some (.int q.2) := by
      show lookD (tD T) (pD q.1) = _
      rw [look_D, hq]
      rfl
    exact set_to (op_ok rfl (op_ok rfl (tup_ok (cons_ok (ali_ok rfl rfl) (cons_ok (ali_ok rfl rfl) rfl rfl) rfl) rfl) rfl gx) rfl (gAdd_i _ _)) rfl
  · rw [decide_eq_false k] at tst
    rw [if_neg k]
    refine (if_f tst).trans ?_
    rw [hρ]
    rfl
end G09

namespace G09
open PySem PySem.Spec PyProof.Rows L2 Vl Pm
theorem ll_row {b : D} {P : List (List Nat)} {T : Tb} {rs : List D} (hn : P.flatten.Nodup) (hne : ∀ c ∈ P, ∃ v, v ∈ c) (hk : ∀ q ∈ T, look T q.1 = some q.2 ∧ q.1.1 ∈ P.flatten ∧ q.1.2 ∈ P.flatten) (hl : P.length ≤ 1000) {i j : Nat} {c d : List Nat} (hc : P[i]? = some c) (hd : P[j]? = some d) (o : Bool) (x7 x8 x9 : Option D) :
    ∃ y7 y8 y9, llB2 (llE b P o T rs (some (.lst false (nsD c))) (some (.lst true ((List.range j).map fun j => .int (lnk P i j T)))) (some (.lst false (nsD d))) x7 x8 x9) = some (.nx (llE b P false T rs (some (.lst false (nsD c))) (some (.lst true ((List.range (j + 1)).map fun j => .int (lnk P i j T)))) (some (.lst false (nsD d))) y7 y8 y9)) := by
  have hj : j < P.length := (List.getElem?_eq_some_iff.mp hd).1
  obtain ⟨ρ', hf, y8, y9, rfl⟩ := for_invG (g := (gTp 2 (gsCons (gNm 8) (gsCons (gNm 9) gsNil)))) (body := llB3) (fun k ρ => ∃ x8 x9, ρ = llE b P false T rs (some (.lst false (nsD c))) (some (.lst true ((List.range j).map fun j => .int (lnk P i j T)))) (some (.lst false (nsD d))) (some (.int (lnk P i j (T.take k)))) x8 x9) ((tD T).map (·.1)) 0 (llE b P false T rs (some (.lst false (nsD c))) (some (.lst true ((List.range j).map fun j => .int (lnk P i j T)))) (some (.lst false (nsD d))) (some (.int 0)) x8 x9) ⟨x8, x9, rfl⟩ fun k e ρ he hI => by
    obtain ⟨z8, z9, rfl⟩ := hI
    unfold tD at he
    rw [List.map_map, List.getElem?_map] at he
    obtain ⟨q, hq, rfl⟩ := Option.map_eq_some_iff.mp he
    obtain ⟨k1, k2, k3⟩ := hk q (List.mem_of_getElem? hq)
    rw [Nat.zero_add, map_take_snoc hq]
    exact ⟨_, _, tp2_ok rfl rfl, ll_step hn hne hc hd k1 k2 k3 (T.take k), _, _, rfl⟩
  rw [List.length_map, tD_len, Nat.zero_add, List.take_length] at hf
  refine ⟨some (.int (lnk P i j T)), y8, y9, ?_⟩
  refine (seq_nx (ρ' := llE b P o T rs (some (.lst false (nsD c))) (some (.lst true ((List.range j).map fun j => .int (lnk P i j T)))) (some (.lst false (nsD d))) (some (.int 0)) x8 x9) rfl).trans ?_
  have fz : fzSlot 2 (llE b P o T rs (some (.lst false (nsD c))) (some (.lst true ((List.range j).map fun j => .int (lnk P i j T)))) (some (.lst false (nsD d))) (some (.int 0)) x8 x9) = some (llE b P false T rs (some (.lst false (nsD c))) (some (.lst true ((List.range j).map fun j => .int (lnk P i j T)))) (some (.lst false (nsD d))) (some (.int 0)) x8 x9) := by
    show some (llE b P o T rs _ _ _ _ x8 x9 |>.set 2 (some (.dct false true (D.frzP (tD T))))) = _
    rw [frzP_t]
    rfl
  refine (seq_nx (ρ' := llE b P false T rs (some (.lst false (nsD c))) (some (.lst true ((List.range j).map fun j => .int (lnk P i j T)))) (some (.lst false (nsD d))) (some (.int (lnk P i j T))) y8 y9) ?_).trans ?_
  · show (fzSlot 2 _).bind _ = _
    rw [fz, Option.bind_some]
    exact (for_it (items := (tD T).map (·.1)) rfl).trans hf
  · rw [List.range_succ, List.map_append]
    exact drop_ok (mut_ok rfl rfl (cons_ok (ali_ok rfl rfl) rfl rfl) rfl (gAppD (by rw [List.length_map, List.length_range]; omega)) rfl)
theorem ll_outer {b : D} {P : List (List Nat)} {T : Tb} {rs : List D} (hn : P.flatten.Nodup) (hne : ∀ c ∈ P, ∃ v, v ∈ c) (hk : ∀ q ∈ T, look T q.1 = some q.2 ∧ q.1.1 ∈ P.flatten ∧ q.1.2 ∈ P.flatten) (hl : P.length ≤ 1000) (hr : rs.length ≤ 1000) {i : Nat} {c : List Nat} (hc : P[i]? = some c) (o : Bool) (x5 x6 x7 x8 x9 : Option D) :
    ∃ o' y5 y6 y7 y8 y9, llB1 (llE b P o T rs (some (.lst false (nsD c))) x5 x6 x7 x8 x9) = some (.nx (llE b P o' T (rs ++ [.tup ((List.range P.length).map fun j => .int (lnk P i j T))]) (some (.lst false (nsD c))) y5 y6 y7 y8 y9)) := by
  obtain ⟨ρ', hf, o', y6, y7, y8, y9, rfl⟩ := for_inv (i := 6) (body := llB2) (fun k ρ => ∃ o x6 x7 x8 x9, ρ = llE b P o T rs (some (.lst false (nsD c))) (some (.lst true ((List.range k).map fun j => .int (lnk P i j T)))) x6 x7 x8 x9) (flD P) 0 (llE b P o T rs (some (.lst false (nsD c))) (some (.lst true [])) x6 x7 x8 x9) ⟨o, x6, x7, x8, x9, rfl⟩ fun j e ρ he hI => by
    obtain ⟨o, z6, z7, z8, z9, rfl⟩ := hI
    unfold flD at he
    rw [List.getElem?_map] at he
    obtain ⟨d, hd, rfl⟩ := Option.map_eq_some_iff.mp he
    obtain ⟨w7, w8, w9, hb⟩ := ll_row (b := b) (rs := rs) hn hne hk hl hc hd o z7 z8 z9
    rw [Nat.zero_add]
    exact ⟨_, hb, _, _, _, _, _, rfl⟩
  rw [flD_len, Nat.zero_add] at hf
  refine ⟨o', some (.lst true ((List.range P.length).map fun j => .int (lnk P i j T))), y6, y7, y8, y9, ?_⟩
  refine (seq_nx (ρ' := llE b P o T rs (some (.lst false (nsD c))) (some (.lst true [])) x6 x7 x8 x9) (set_to (lst_ok (ds := []) rfl rfl) rfl)).trans ?_
  refine (seq_nx ((for_it (seq_it (d := .lst true (flD P)) rfl (items_fl P true))).trans hf)).trans ?_
  exact drop_ok (mut_ok rfl rfl (cons_ok (cl_ok (cons_ok rfl rfl rfl) (if_pos (no_rw P.length fun j => lnk P i j T))) rfl rfl) rfl (gAppD (by omega)) rfl)
theorem llinking_ok {n : Nat} {w : List Int} (hn : n ≤ 1000) (hw : Wd n w) (hl : w.length ≤ 1000) : F__law_linking [brD (n : Nat) w] = some (lkD (pts n (ord n w) n) (tab n w).2, []) := by
  have hO := ord_isP hw
  have hT := tab_ok hw
  have hnd := pts_nd hO n (Nat.le_refl _)
  have hpl := pts_len hO (n := n) n
  have cov := fun (v : Nat) (h1 : 1 ≤ v) (h2 : v ≤ n) => cover hO h1 h2
  have hne : ∀ c ∈ pts n (ord n w) n, ∃ v, v ∈ c := fun c hc => pts_ne hO (Nat.le_refl n) hc
  have hk : ∀ q ∈ (tab n w).2, look (tab n w).2 q.1 = some q.2 ∧ q.1.1 ∈ (pts n (ord n w) n).flatten ∧ q.1.2 ∈ (pts n (ord n w) n).flatten := fun q hq => by
    have := hT.k q hq
    exact ⟨look_nd hT.nd q hq, cov _ this.1 this.2.1, cov _ this.2.2.1 this.2.2.2⟩
  have e1 : fCall F__law_parts (fCons [] [] (fCall F__law_order_of (fCons [0] [] (fVar 0) fNil)) fNil) [some (brD (n : Nat) w), none, none, none, none, none, none, none, none, none] = some (.lst true (flD (pts n (ord n w) n)), [some (brD (n : Nat) w), none, none, none, none, none, none, none, none, none]) :=
    call_ok (cons_ok (call_ok (cons_ok rfl rfl rfl) (frzL1 (frz_br _ _)) (noL1 (no_br _ _)) (lorder_ok hn hw)) rfl rfl) (frzL1 (frz_tns _)) (noL1 (no_ns _)) (parts_ok hO hn)
  have e2 := ltable_ok hn hw hl
  generalize pts n (ord n w) n = P at *
  generalize (tab n w).2 = T at hk e2 ⊢
  obtain ⟨ρ', hf, o', y4, y5, y6, y7, y8, y9, rfl⟩ := for_inv (i := 4) (body := llB1) (fun k ρ => ∃ o x4 x5 x6 x7 x8 x9, ρ = llE (brD (n : Nat) w) P o T ((List.range k).map fun i => .tup ((List.range P.length).map fun j => .int (lnk P i j T))) x4 x5 x6 x7 x8 x9) (flD P) 0 (llE (brD (n : Nat) w) P true T [] none none none none none none) ⟨true, none, none, none, none, none, none, rfl⟩ fun i e ρ he hI => by
    obtain ⟨o, z4, z5, z6, z7, z8, z9, rfl⟩ := hI
    have hi := (List.getElem?_eq_some_iff.mp he).1
    rw [flD_len] at hi
    unfold flD at he
    rw [List.getElem?_map] at he
    obtain ⟨c, hc, rfl⟩ := Option.map_eq_some_iff.mp he
    rw [Nat.zero_add]
    obtain ⟨o2, w5, w6, w7, w8, w9, hb⟩ := ll_outer (b := brD (n : Nat) w) (rs := (List.range i).map fun i => .tup ((List.range P.length).map fun j => .int (lnk P i j T))) hnd hne hk (by omega) (by rw [List.length_map, List.length_range]; omega) hc o z5 z6 z7 z8 z9
    refine ⟨_, hb, o2, some (.lst false (nsD c)), w5, w6, w7, w8, w9, ?_⟩
    rw [List.range_succ, List.map_append]
    rfl
  rw [flD_len, Nat.zero_add] at hf
  rw [ll_split]
  refine run_at (ρ0 := [some (brD (n : Nat) w), none, none, none, none, none, none, none, none, none]) (ρ := llE (brD (n : Nat) w) P o' T ((List.range P.length).map fun i => .tup ((List.range P.length).map fun j => .int (lnk P i j T))) y4 y5 y6 y7 y8 y9) rfl rfl ?_
  rw [seq_nx (ρ' := [some (brD (n : Nat) w), some (.lst true (flD P)), none, none, none, none, none, none, none, none]) (set_to e1 rfl)]
  rw [seq_nx (ρ' := [some (brD (n : Nat) w), some (.lst true (flD P)), some (.dct true true (tD T)), none, none, none, none, none, none, none]) (set_to (call_ok (cons_ok rfl rfl rfl) (frzL1 (frz_br _ _)) (noL1 (no_br _ _)) e2) rfl)]
  rw [seq_nx (ρ' := llE (brD (n : Nat) w) P true T [] none none none none none none) (set_to (lst_ok (ds := []) rfl rfl) rfl)]
  rw [seq_nx ((for_it (seq_it (d := .lst true (flD P)) rfl (items_fl P true))).trans hf)]
  exact ret_ok (cl_ok (cons_ok rfl rfl rfl) (if_pos (rowt_no P.length (fun i j => lnk P i j T) (List.range P.length))))
theorem eqOk_lk (P : List (List Nat)) (T : Tb) : eqOk (lkD P T) = true := by
  have e : ∀ L : List Nat, D.eokL (L.map fun i => D.tup ((List.range P.length).map fun j => .int (lnk P i j T))) = true ∧ D.depL (L.map fun i => D.tup ((List.range P.length).map fun j => .int (lnk P i j T))) ≤ 1 := by
    intro L
    induction L with
    | nil => exact ⟨rfl, by simp [D.depL]⟩
    | cons i r ih =>
      have e1 := eokL_ints ((List.range P.length).map fun j => lnk P i j T)
      have e2 := depL_ints ((List.range P.length).map fun j => lnk P i j T)
      rw [List.map_map] at e1 e2
      have e1 : D.eokL ((List.range P.length).map fun j => D.int (lnk P i j T)) = true := e1
      have e2 : D.depL ((List.range P.length).map fun j => D.int (lnk P i j T)) = 0 := e2
      constructor
      · show (D.eokL ((List.range P.length).map fun j => D.int (lnk P i j T)) && D.eokL _) = true
        rw [e1, ih.1]
        rfl
      · simp only [List.map_cons, D.depL, D.dep, e2]
        omega
  unfold eqOk lkD
  obtain ⟨a, b⟩ := e (List.range P.length)
  rw [Bool.and_eq_true]
  refine ⟨a, decide_eq_true ?_⟩
  simp only [D.dep]
  omega
end G09

namespace G09
open PySem PySem.Spec PyProof.Rows L2 Vl Pm
def repZ (k : Nat) (a : List Int) : List Int := (List.replicate k a).flatten
theorem repZ_len (k : Nat) (a : List Int) : (repZ k a).length = k * a.length := by
  unfold repZ
  rw [List.length_flatten, List.map_replicate, List.sum_replicate_nat]
theorem repZ_rev (k : Nat) (a : List Int) (f : Int → Int) : (repZ k a).reverse.map f = repZ k (a.reverse.map f) := by
  unfold repZ
  rw [List.reverse_flatten, List.map_replicate, List.reverse_replicate, List.map_flatten, List.map_replicate]
theorem gMul_t {a : List Int} {k : Int} (j : Nat) (e : k = (j : Nat)) (h1 : j ≤ 1000) (h2 : a.length ≤ 100) : gMul (.tup (a.map D.int)) (.int k) = some (.tup ((repZ j a).map D.int)) := by
  subst e
  have h3 : a.length * j ≤ 100 * 1000 := Nat.mul_le_mul h2 h1
  have e : repOk (a.map D.int).length (j : Nat) = true := by
    unfold repOk
    rw [List.length_map, decide_eq_true (by omega), decide_eq_true (by omega), decide_eq_true (by rw [Int.toNat_natCast]; omega)]
    rfl
  show (if (repOk (a.map D.int).length (j : Nat) && D.noOwnL (a.map D.int)) = true then some (D.tup (rep (j : Nat) (a.map D.int))) else none) = _
  rw [e, noOwnL_ints, if_pos (by rfl)]
  unfold rep repZ
  rw [Int.toNat_natCast, List.map_flatten, List.map_replicate]
theorem rep0 {F : FD} {n c : Int} {a : List Int} (hF : F = runF 2 0 2 (sSeq (sIf (fB (fOp [1] [] gLt (fVar 1) (fC (.int 0)))) (sRet (fCall F_repeated_0 (fCons [] [] (fCall F_undone (fCons [0] [] (fVar 0) fNil)) (fCons [] [] (fUn gNeg (fVar 1)) fNil)))) sNil)
    (sRet (fTup (fCons [] [] (chk (fOp [0] [] gIxA (fVar 0) (fC (.int 0)))) (fCons [] [] (fOp [0] [] gMul (fOp [0] [] gIxA (fVar 0) (fC (.int 1))) (fVar 1)) fNil)))))) (j : Nat) (e : c = (j : Nat)) (h1 : j ≤ 1000) (h2 : a.length ≤ 100) : F [brD n a, .int c] = some (brD n (repZ j a), []) := by
  subst hF
  refine run_at (ρ0 := [some (brD n a), some (.int c)]) (ρ := [some (brD n a), some (.int c)]) rfl rfl ?_
  rw [seq_nx (ρ' := [some (brD n a), some (.int c)]) ((if_f (b_ok (op_ok rfl rfl rfl ((gLt_i _ _).trans (by rw [decide_eq_false (by omega)]))))).trans rfl)]
  exact ret_ok (tup_ok (cons_ok (chk_ok (br_fst rfl) rfl) (cons_ok (op_ok (br_snd rfl) rfl rfl (gMul_t j e h1 h2)) rfl rfl) rfl) rfl)
theorem repeated_pos {n c : Int} {a : List Int} (j : Nat) (e : c = (j : Nat)) (h1 : j ≤ 1000) (h2 : a.length ≤ 100) : F_repeated [brD n a, .int c] = some (brD n (repZ j a), []) := by
  unfold F_repeated
  refine run_at (ρ0 := [some (brD n a), some (.int c)]) (ρ := [some (brD n a), some (.int c)]) rfl rfl ?_
  rw [seq_nx (ρ' := [some (brD n a), some (.int c)]) ((if_f (b_ok (op_ok rfl rfl rfl ((gLt_i _ _).trans (by rw [decide_eq_false (by omega)]))))).trans rfl)]
  exact ret_ok (tup_ok (cons_ok (chk_ok (br_fst rfl) rfl) (cons_ok (op_ok (br_snd rfl) rfl rfl (gMul_t j e h1 h2)) rfl rfl) rfl) rfl)
theorem repeated_neg {n c : Int} {a : List Int} (j : Nat) (e : -c = (j : Nat)) (h0 : c < 0) (h1 : j ≤ 1000) (h2 : a.length ≤ 100) : F_repeated [brD n a, .int c] = some (brD n (repZ j (a.reverse.map fun x => -x)), []) := by
  unfold F_repeated
  refine run_at (ρ0 := [some (brD n a), some (.int c)]) (ρ := [some (brD n a), some (.int c)]) rfl rfl ?_
  refine seq_rt ?_
  refine (if_t (b_ok (op_ok rfl rfl rfl ((gLt_i _ _).trans (by rw [decide_eq_true h0]))))).trans ?_
  exact ret_ok (call_ok (ds := [brD n (a.reverse.map fun x => -x), .int (-c)]) (cons_ok (call_ok (cons_ok rfl rfl rfl) (frzL1 (frz_br _ _)) (noL1 (no_br _ _)) (undone_ok (by omega))) (cons_ok (un_ok rfl (gNeg_i _)) rfl rfl) rfl) (frzL2 (frz_br _ _) rfl) (noL2 (no_br _ _) rfl) (rep0 rfl j e h1 (by rw [List.length_map, List.length_reverse]; exact h2)))
/-! ### twists -/
def rowZ (n : Nat) : List Int := (List.range' 1 (n - 1)).map Int.ofNat
theorem rowZ_len (n : Nat) : (rowZ n).length = n - 1 := by unfold rowZ; rw [List.length_map, List.length_range']
theorem row_ok {n : Nat} {ρ : Vl.Env} (hn : n ≤ 1000) (h : Env.at ρ 0 = some (.int (n : Nat))) : fTupRg (rRg2 [] [] (fC (.int 1)) (fVar 0)) ρ = some (.tup ((rowZ n).map D.int), ρ) := by
  rw [tupRg_ok (ρ1 := ρ) (rRg2_ok rfl (var_ok h)) (okRg_n (by omega) (by omega) (by omega) (by omega)), show ((n : Int) - 1).toNat = n - 1 by omega, rg1_ns]
  rfl
theorem full_ok {n : Nat} (hn : n ≤ 100) : F_full_twist [.int (n : Nat)] = some (brD (n : Nat) (repZ n (rowZ n)), []) :=
  run_at (ρ0 := [some (.int (n : Nat))]) (ρ := [some (.int (n : Nat))]) rfl rfl (ret_ok (tup_ok (cons_ok (ali_ok rfl rfl) (cons_ok (op_ok (row_ok (by omega) rfl) rfl rfl (gMul_t n rfl (by omega) (by rw [rowZ_len]; omega))) rfl rfl) rfl) rfl))
theorem torus_pos {n : Nat} {c : Int} (hn : n ≤ 100) (j : Nat) (e : c = (j : Nat)) (h1 : j ≤ 1000) : F_torus_braid [.int (n : Nat), .int c] = some (brD (n : Nat) (repZ j (rowZ n)), []) :=
  run_at (ρ0 := [some (.int (n : Nat)), some (.int c)]) (ρ := [some (.int (n : Nat)), some (.int c)]) rfl rfl (ret_ok (call_ok (ds := [brD (n : Nat) (rowZ n), .int c]) (cons_ok (tup_ok (cons_ok (ali_ok rfl rfl) (cons_ok (row_ok (by omega) rfl) rfl rfl) rfl) rfl) (cons_ok rfl rfl rfl) rfl) (frzL2 (frz_br _ _) rfl) (noL2 (no_br _ _) rfl) (repeated_pos j e h1 (by rw [rowZ_len]; omega))))
theorem torus_neg {n : Nat} {c : Int} (hn : n ≤ 100) (j : Nat) (e : -c = (j : Nat)) (h0 : c < 0) (h1 : j ≤ 1000) : F_torus_braid [.int (n : Nat), .int c] = some (brD (n : Nat) (repZ j ((rowZ n).reverse.map fun x => -x)), []) :=
  run_at (ρ0 := [some (.int (n : Nat)), some (.int c)]) (ρ := [some (.int (n : Nat)), some (.int c)]) rfl rfl (ret_ok (call_ok (ds := [brD (n : Nat) (rowZ n), .int c]) (cons_ok (tup_ok (cons_ok (ali_ok rfl rfl) (cons_ok (row_ok (by omega) rfl) rfl rfl) rfl) rfl) (cons_ok rfl rfl rfl) rfl) (frzL2 (frz_br _ _) rfl) (noL2 (no_br _ _) rfl) (repeated_neg j e h0 h1 (by rw [rowZ_len]; omega))))
def hlf (n j : Nat) : List Nat := (List.range j).flatMap fun t => List.range' 1 (n - 1 - t)
theorem hlf_succ (n j : Nat) : hlf n (j + 1) = hlf n j ++ List.range' 1 (n - 1 - j) := by
  unfold hlf
  rw [List.range_succ, List.flatMap_append]
  simp
theorem hlf_len (n : Nat) : ∀ j, (hlf n j).length ≤ j * n
  | 0 => by simp [hlf]
  | j + 1 => by
    have := hlf_len n j
    rw [hlf_succ, List.length_append, List.length_range', Nat.succ_mul]
    omega
theorem down_ok {n : Nat} {ρ ρ1 : Vl.Env} {fr : M (List D)} {j : Int} (e : j = (n : Nat) - 1) (hn : n ≤ 1000) (h1 : 1 ≤ n) (h : fr ρ = some ([.int j, .int 0, .int (-1)], ρ1)) : iRg3 fr ρ = some (rgDown ((n : Int) - 1) (n - 1), ρ1) := by
  subst e
  show (fr ρ).bind _ = _
  rw [h, Option.bind_some]
  have e4 : downOf [.int ((n : Int) - 1), .int 0, .int (-1)] = some ((n : Int) - 1, n - 1) := by
    show (if (okR ((n : Int) - 1) && okR 0) = true then some ((n : Int) - 1, ((n : Int) - 1 - 0).toNat) else none) = _
    rw [okR_n (by omega) (by omega), okR_n (by omega) (by omega), if_pos (by rfl), show ((n : Int) - 1 - 0).toNat = n - 1 by omega]
  rw [e4]
  rfl
theorem down_get {n j : Nat} {d : D} (h : (rgDown ((n : Int) - 1) (n - 1))[j]? = some d) : j < n - 1 ∧ d = .int ((n - 1 - j : Nat) : Int) := by
  have hj := (List.getElem?_eq_some_iff.mp h).1
  rw [rgDown_length] at hj
  refine ⟨hj, ?_⟩
  rw [rgDown_get h]
  congr 1
  omega
abbrev htB : MS := (sDrop (fMut 1 "list" gExtend (fCons [] [] (fFz (fLstRg (rRg2 [] [] (fC (.int 1)) (fOp [2] [] gAdd (fVar 2) (fC (.int 1)))))) fNil)))
theorem ht_split : F_half_twist = runF 1 0 3 (sSeq (sSet 1 (fLst fNil)) (sSeq (sFor (iRg3 (fCons [] [] (fOp [0] [] gSub (fVar 0) (fC (.int 1))) (fCons [] [] (fC (.int 0)) (fCons [] [] (fUn gNeg (fC (.int 1))) fNil)))) (gNm 2) htB) (sRet (fTup (fCons [] [] (fAli 0) (fCons [] [] (fCl gTuple (fCons [1] [] (fVar 1) fNil)) fNil)))))) := rfl
theorem half_ok {n : Nat} (h1 : 1 ≤ n) (hn : n ≤ 100) : F_half_twist [.int (n : Nat)] = some (brD (n : Nat) ((hlf n (n - 1)).map Int.ofNat), []) := by
  obtain ⟨ρ', hf, y, rfl⟩ := for_inv (i := 2) (body := htB) (fun k ρ => ∃ y, ρ = [some (.int (n : Nat)), some (.lst true (nsD (hlf n k))), y]) (rgDown ((n : Int) - 1) (n - 1)) 0 [some (.int (n : Nat)), some (.lst true (nsD (hlf n 0))), none] ⟨none, rfl⟩ fun j d ρ hd hI => by
    obtain ⟨y, rfl⟩ := hI
    obtain ⟨hj, rfl⟩ := down_get hd
    rw [Nat.zero_add, hlf_succ]
    have hh := hlf_len n j
    have hh2 : j * n ≤ 100 * 100 := Nat.mul_le_mul (by omega) hn
    have e1 : fLstRg (rRg2 [] [] (fC (.int 1)) (fOp [2] [] gAdd (fVar 2) (fC (.int 1)))) [some (.int (n : Nat)), some (.lst true (nsD (hlf n j))), some (.int ((n - 1 - j : Nat) : Int))] = some (.lst true (nsD (List.range' 1 (n - 1 - j))), [some (.int (n : Nat)), some (.lst true (nsD (hlf n j))), some (.int ((n - 1 - j : Nat) : Int))]) := by
      rw [lstRg_ok (ρ1 := [some (.int (n : Nat)), some (.lst true (nsD (hlf n j))), some (.int ((n - 1 - j : Nat) : Int))]) (rRg2_ok rfl rfl) (okRg_n (by omega) (by omega) (by omega) (by omega)), show (((n - 1 - j : Nat) : Int) + 1 - 1).toNat = n - 1 - j by omega, rg1_ns]
    have e2 := fz_ok e1
    rw [show D.frz (.lst true (nsD (List.range' 1 (n - 1 - j)))) = .lst false (nsD (List.range' 1 (n - 1 - j))) from congrArg (D.lst false) (frz_ns _)] at e2
    have e3 : gExtend (.lst true (nsD (hlf n j))) [.lst false (nsD (List.range' 1 (n - 1 - j)))] = some (.non, .lst true (nsD (hlf n j ++ List.range' 1 (n - 1 - j)))) := by
      show (if (D.noOwnL (nsD (hlf n j)) && D.noOwnL (nsD (List.range' 1 (n - 1 - j))) && szOk ((nsD (hlf n j)).length + (nsD (List.range' 1 (n - 1 - j))).length)) = true then some (D.non, D.lst true (nsD (hlf n j) ++ nsD (List.range' 1 (n - 1 - j)))) else none) = _
      rw [no_ns, no_ns, nsD_len, nsD_len, List.length_range', show szOk ((hlf n j).length + (n - 1 - j)) = true from decide_eq_true (by omega), if_pos (by rfl), nsD_app]
    exact ⟨_, drop_ok (mut_ok rfl rfl (cons_ok e2 rfl rfl) rfl e3 rfl), _, rfl⟩
  rw [rgDown_length, Nat.zero_add] at hf
  rw [ht_split]
  refine run_at (ρ0 := [some (.int (n : Nat)), none, none]) (ρ := [some (.int (n : Nat)), some (.lst true (nsD (hlf n (n - 1)))), y]) rfl rfl ?_
  rw [seq_nx (ρ' := [some (.int (n : Nat)), some (.lst true (nsD (hlf n 0))), none]) (set_to (lst_ok (ds := []) rfl rfl) rfl)]
  rw [seq_nx ((for_it (down_ok (n := n) rfl (by omega) h1 (cons_ok (op_ok rfl rfl rfl (gSub_i _ _)) (cons_ok rfl (cons_ok (un_ok rfl (gNeg_i _)) rfl rfl) rfl) rfl))).trans hf)]
  exact ret_ok (tup_ok (cons_ok (ali_ok rfl rfl) (cons_ok (cl_ok (cons_ok rfl rfl rfl) (gTuple_ns _ _)) rfl rfl) rfl) rfl)
/-! ### doubled -/
def dbl (x : Int) : List Int := [2 * (x.natAbs : Int), 2 * (x.natAbs : Int) - 1, 2 * (x.natAbs : Int) + 1, 2 * (x.natAbs : Int)].map fun y => sg x * y
def dbls (w : List Int) : List Int := w.flatMap dbl
theorem dbls_snoc (w : List Int) (x : Int) : dbls (w ++ [x]) = dbls w ++ dbl x := by
  unfold dbls
  rw [List.flatMap_append]
  simp
theorem dbls_len (w : List Int) : (dbls w).length = 4 * w.length := by
  unfold dbls
  induction w with
  | nil => rfl
  | cons x r ih =>
    rw [List.flatMap_cons, List.length_append, ih, List.length_cons]
    show 4 + _ = _
    omega
abbrev doB : MS := (sSeq (sSet 3 (fOp [] [] gMul (fC (.int 2)) (fCl gAbs (fCons [2] [] (fVar 2) fNil)))) (sSeq (sSet 4 (fTup (fCons [] [3] (fAli 3) (fCons [] [3] (fOp [3] [] gSub (fVar 3) (fC (.int 1))) (fCons [] [3] (fOp [3] [] gAdd (fVar 3) (fC (.int 1))) (fCons [] [] (fAli 3) fNil)))))) (sDrop (fMut 1 "list" gExtend (fCons [] [] (fFz (fComp [5] (iSeq (fVar 4)) (gNm 5) fYes (fOp [] [] gMul (fCall F_signum (fCons [2] [] (fVar 2) fNil)) (fVar 5)))) fNil)))))
theorem do_split : F_doubled = runF 1 0 6 (sSeq (sSet 1 (fLst fNil)) (sSeq (sFor (iSeq (fOp [0] [] gIxA (fVar 0) (fC (.int 1)))) (gNm 2) doB) (sRet (fTup (fCons [] [] (fOp [] [] gMul (fC (.int 2)) (fOp [0] [] gIxA (fVar 0) (fC (.int 0)))) (fCons [] [] (fCl gTuple (fCons [1] [] (fVar 1) fNil)) fNil)))))) := rfl
theorem doubled_ok {n : Int} {w : List Int} (hw : ∀ x ∈ w, x ≠ 0) (hl : w.length ≤ 1000) : F_doubled [brD n w] = some (brD (2 * n) (dbls w), []) := by
  obtain ⟨ρ', hf, y2, y3, y4, rfl⟩ := for_inv (i := 2) (body := doB) (fun k ρ => ∃ y2 y3 y4, ρ = [some (brD n w), some (.lst true ((dbls (w.take k)).map D.int)), y2, y3, y4, none]) (w.map D.int) 0 [some (brD n w), some (.lst true []), none, none, none, none] ⟨none, none, none, rfl⟩ fun j d ρ hd hI => by
    obtain ⟨y2, y3, y4, rfl⟩ := hI
    rw [List.getElem?_map] at hd
    obtain ⟨x, hx, rfl⟩ := Option.map_eq_some_iff.mp hd
    have x0 := hw x (List.mem_of_getElem? hx)
    have tk : w.take (j + 1) = w.take j ++ [x] := by rw [List.take_succ, hx]; rfl
    have hj := (List.getElem?_eq_some_iff.mp hx).1
    rw [Nat.zero_add, tk, dbls_snoc]
    have tl : (w.take j).length = j := by rw [List.length_take]; omega
    have sl := dbls_len (w.take j)
    generalize dbls (w.take j) = s at sl ⊢
    refine ⟨_, ?_, some (.int x), some (.int (2 * (x.natAbs : Nat))), some (.tup ([2 * (x.natAbs : Int), 2 * (x.natAbs : Int) - 1, 2 * (x.natAbs : Int) + 1, 2 * (x.natAbs : Int)].map D.int)), rfl⟩
    refine (seq_nx (ρ' := [some (brD n w), some (.lst true (s.map D.int)), some (.int x), some (.int (2 * (x.natAbs : Nat))), y4, none]) (set_to (op_ok rfl (abs1 rfl) rfl (gMul_i (cMul_l (by decide)))) rfl)).trans ?_
    refine (seq_nx (ρ' := [some (brD n w), some (.lst true (s.map D.int)), some (.int x), some (.int (2 * (x.natAbs : Nat))), some (.tup ([2 * (x.natAbs : Int), 2 * (x.natAbs : Int) - 1, 2 * (x.natAbs : Int) + 1, 2 * (x.natAbs : Int)].map D.int)), none]) (set_to (tup_ok (cons_ok (ali_ok rfl rfl) (cons_ok (op_ok rfl rfl rfl (gSub_i _ _)) (cons_ok (op_ok rfl rfl rfl (gAdd_i _ _)) (cons_ok (ali_ok rfl rfl) rfl rfl) rfl) rfl) rfl) rfl) rfl)).trans ?_
    have cz := comp_z (i := 5) (ρ0 := [some (brD n w), some (.lst true (s.map D.int)), some (.int x), some (.int (2 * (x.natAbs : Nat))), some (.tup ([2 * (x.natAbs : Int), 2 * (x.natAbs : Int) - 1, 2 * (x.natAbs : Int) + 1, 2 * (x.natAbs : Int)].map D.int)), none]) (ρ1 := [some (brD n w), some (.lst true (s.map D.int)), some (.int x), some (.int (2 * (x.natAbs : Nat))), some (.tup ([2 * (x.natAbs : Int), 2 * (x.natAbs : Int) - 1, 2 * (x.natAbs : Int) + 1, 2 * (x.natAbs : Int)].map D.int)), none]) (fi := iSeq (fVar 4)) (fe := (fOp [] [] gMul (fCall F_signum (fCons [2] [] (fVar 2) fNil)) (fVar 5))) (l := [2 * (x.natAbs : Int), 2 * (x.natAbs : Int) - 1, 2 * (x.natAbs : Int) + 1, 2 * (x.natAbs : Int)]) (fun y => sg x * y)
      (seq_it (d := .tup ([2 * (x.natAbs : Int), 2 * (x.natAbs : Int) - 1, 2 * (x.natAbs : Int) + 1, 2 * (x.natAbs : Int)].map D.int)) rfl (items_t _)) rfl (fun y _ => op_ok (call1 rfl (signum_ok x0)) rfl rfl (gMul_i (cMul_l (by unfold sg; split <;> decide)))) (by simp)
    have e2 := fz_ok cz
    have e3 : gExtend (.lst true (s.map D.int)) [D.frz (.lst true ((dbl x).map D.int))] = some (.non, .lst true ((s ++ dbl x).map D.int)) := by
      show (if (D.noOwnL (s.map D.int) && D.noOwnL (D.frzL ((dbl x).map D.int)) && szOk ((s.map D.int).length + (D.frzL ((dbl x).map D.int)).length)) = true then some (D.non, D.lst true (s.map D.int ++ D.frzL ((dbl x).map D.int))) else none) = _
      have dl : (dbl x).length = 4 := rfl
      rw [frzL_ints, noOwnL_ints, noOwnL_ints, List.length_map, List.length_map, dl, show szOk (s.length + 4) = true from decide_eq_true (by omega), if_pos (by rfl), List.map_append]
    exact drop_ok (mut_ok rfl rfl (cons_ok e2 rfl rfl) rfl e3 rfl)
  rw [List.length_map, Nat.zero_add, List.take_length] at hf
  rw [do_split]
  refine run_at (ρ0 := [some (brD n w), none, none, none, none, none]) (ρ := [some (brD n w), some (.lst true ((dbls w).map D.int)), y2, y3, y4, none]) rfl rfl ?_
  rw [seq_nx (ρ' := [some (brD n w), some (.lst true []), none, none, none, none]) (set_to (lst_ok (ds := []) rfl rfl) rfl)]
  rw [seq_nx ((for_it (br_items (i := 0) (n := n) (w := w) rfl)).trans hf)]
  exact ret_ok (tup_ok (cons_ok (op_ok rfl (br_fst rfl) rfl (gMul_i (cMul_l (by decide)))) (cons_ok (cl_ok (cons_ok rfl rfl rfl) (gTuple_z _ _)) rfl rfl) rfl) rfl)
end G09

namespace G09
open PySem PySem.Spec PyProof.Rows L2 Vl Pm
/-! ### freely_reduced -/
abbrev frT : M Bool := (fAnd (fTr (fVar 1)) (fB (fOp [1] [] gEq (fOp [1] [] gIxA (fVar 1) (fUn gNeg (fC (.int 1)))) (fUn gNeg (fVar 2)))))
abbrev frB : MS := (sIf frT (sDrop (fMut 1 "list" gPop fNil)) (sDrop (fMut 1 "list" gAppend (fCons [] [] (fAli 2) fNil))))
theorem fr_split : F_freely_reduced = runF 1 0 3 (sSeq (sSet 1 (fLst fNil)) (sSeq (sFor (iSeq (fOp [0] [] gIxA (fVar 0) (fC (.int 1)))) (gNm 2) frB) (sRet (fTup (fCons [] [] (chk (fOp [0] [] gIxA (fVar 0) (fC (.int 0)))) (fCons [] [] (fCl gTuple (fCons [1] [] (fVar 1) fNil)) fNil)))))) := rfl
theorem atI_last (s : List Int) (t : Int) : L2.atI ((s ++ [t]).map D.int) (-1) = some (.int t) := by
  unfold L2.atI L2.ixN
  rw [List.length_map, List.length_append, List.length_singleton]
  rw [if_neg (by omega), if_pos (by omega), show ((-1 : Int) + ((s.length + 1 : Nat) : Int)).toNat = s.length by omega]
  show ((s ++ [t]).map D.int)[s.length]? = _
  rw [List.getElem?_map]
  simp
theorem stp_len (s : List Int) (x : Int) : (stp s x).length ≤ s.length + 1 := by
  rcases snoc_cases s with rfl | ⟨s', t, rfl⟩
  · rw [stp_nil]; simp
  · rw [stp_snoc]
    split <;> simp
    omega
theorem fold_len : ∀ (p s : List Int), (p.foldl stp s).length ≤ s.length + p.length
  | [], s => Nat.le_refl _
  | x :: r, s => by
    have := fold_len r (stp s x)
    have := stp_len s x
    rw [List.foldl_cons, List.length_cons]
    omega
theorem fr_step {b : D} {s : List Int} {x : Int} (hs : s.length ≤ 1000) : frB [some b, some (.lst true (s.map D.int)), some (.int x)] = some (.nx [some b, some (.lst true ((stp s x).map D.int)), some (.int x)]) := by
  have app : ∀ s : List Int, s.length ≤ 1000 → sDrop (fMut 1 "list" gAppend (fCons [] [] (fAli 2) fNil)) [some b, some (.lst true (s.map D.int)), some (.int x)] = some (.nx [some b, some (.lst true ((s ++ [x]).map D.int)), some (.int x)]) := fun s hs => by
    have e : gAppend (.lst true (s.map D.int)) [.int x] = some (.non, .lst true ((s ++ [x]).map D.int)) := by
      rw [gAppD (by rw [List.length_map]; omega), List.map_append]
      rfl
    exact drop_ok (mut_ok rfl rfl (cons_ok (ali_ok rfl rfl) rfl rfl) rfl e rfl)
  rcases snoc_cases s with rfl | ⟨s', t, rfl⟩
  · rw [stp_nil]
    refine (if_f (and_f (tr_ok rfl rfl))).trans ?_
    exact app [] hs
  · have tr : fTr (fVar 1) [some b, some (.lst true ((s' ++ [t]).map D.int)), some (.int x)] = some (true, [some b, some (.lst true ((s' ++ [t]).map D.int)), some (.int x)]) := tr_ok rfl (by
      show some (!((s' ++ [t]).map D.int).isEmpty) = _
      simp)
    have lt := ixl_ok (O1 := [1]) (T2 := []) (fa := fVar 1) (fb := (fUn gNeg (fC (.int 1)))) (ρ := [some b, some (.lst true ((s' ++ [t]).map D.int)), some (.int x)]) (ρ1 := [some b, some (.lst true ((s' ++ [t]).map D.int)), some (.int x)]) (ρ2 := [some b, some (.lst true ((s' ++ [t]).map D.int)), some (.int x)]) (o := true) (j := -1) rfl rfl rfl (atI_last s' t)
    have tst : frT [some b, some (.lst true ((s' ++ [t]).map D.int)), some (.int x)] = some (decide (t = -x), [some b, some (.lst true ((s' ++ [t]).map D.int)), some (.int x)]) := (and_t tr).trans (b_ok (op_ok lt (un_ok rfl (gNeg_i _)) rfl (gEq_i _ _)))
    rw [stp_snoc]
    by_cases c : t = -x
    · rw [decide_eq_true c] at tst
      rw [if_pos c]
      refine (if_t tst).trans ?_
      have e : gPop (.lst true ((s' ++ [t]).map D.int)) [] = some (.int t, .lst true (s'.map D.int)) := by
        show (if D.noOwnL ((s' ++ [t]).map D.int) = true then (((s' ++ [t]).map D.int)[((s' ++ [t]).map D.int).length - 1]?).bind fun d => some (d, D.lst true ((s' ++ [t]).map D.int).dropLast) else none) = _
        rw [noOwnL_ints, if_pos rfl, List.length_map, List.length_append, List.length_singleton, Nat.add_sub_cancel, List.getElem?_map, List.map_append]
        simp
      exact drop_ok (mut_ok rfl rfl rfl rfl e rfl)
    · rw [decide_eq_false c] at tst
      rw [if_neg c]
      exact (if_f tst).trans (app _ hs)
theorem reduced_ok {n : Int} {w : List Int} (hl : w.length ≤ 1000) : F_freely_reduced [brD n w] = some (brD n (w.foldl stp []), []) := by
  obtain ⟨y, hy⟩ := sfor_pre (i := 2) (body := frB) (ρ0 := [some (brD n w), some (.lst true []), none]) w (fun p => [some (brD n w), some (.lst true ((p.foldl stp []).map D.int)), none]) none (br_items (i := 0) (n := n) rfl) rfl fun p x q e => by
    have pl : p.length ≤ 1000 := by rw [e] at hl; simp at hl; omega
    have fl := fold_len p []
    rw [List.length_nil, Nat.zero_add] at fl
    refine ⟨some (.int x), ?_⟩
    rw [List.foldl_append]
    exact fr_step (by omega)
  rw [fr_split]
  refine run_at (ρ0 := [some (brD n w), none, none]) (ρ := [some (brD n w), some (.lst true ((w.foldl stp []).map D.int)), y]) rfl rfl ?_
  rw [seq_nx (ρ' := [some (brD n w), some (.lst true []), none]) (set_to (lst_ok (ds := []) rfl rfl) rfl)]
  rw [seq_nx (ρ' := [some (brD n w), some (.lst true ((w.foldl stp []).map D.int)), y]) hy]
  exact ret_ok (tup_ok (cons_ok (chk_ok (br_fst rfl) rfl) (cons_ok (cl_ok (cons_ok rfl rfl rfl) (gTuple_z _ _)) rfl rfl) rfl) rfl)
/-! ### _law_reduced -/
abbrev lrB : MS := (sIf (fB (fOp [1] [] gEq (fOp [1] [] gIxA (fVar 1) (fVar 3)) (fOp [] [] gSub (fC (.int 0)) (fOp [1] [] gIxA (fVar 1) (fOp [3] [] gAdd (fVar 3) (fC (.int 1))))))) (sSeq (sSet 1 (fOp [] [] gAdd (fSl [1] [] (fVar 1) oNone (oSome (fVar 3))) (fSl [1] [] (fVar 1) (oSome (fOp [3] [] gAdd (fVar 3) (fC (.int 2)))) oNone))) sBk) sNil)
abbrev lrF : MS := (sFor (iRg1 (fCons [] [] (fOp [] [] gSub (fCl gLen (fCons [1] [] (fVar 1) fNil)) (fC (.int 1))) fNil)) (gNm 3) lrB)
theorem lr_split : F__law_reduced = runF 1 0 4 (sSeq (sSet 1 (fCl gListA (fCons [0] [] (fVar 0) fNil))) (sSeq (sFor (iRg1 (fCons [] [] (fCl gLen (fCons [0] [] (fVar 0) fNil)) fNil)) (gNm 2) lrF) (sRet (fCl gTuple (fCons [1] [] (fVar 1) fNil))))) := rfl
abbrev lrE (z : D) (l : List Int) (x2 x3 : Option D) : Vl.Env := [some z, some (.lst true (l.map D.int)), x2, x3]
theorem sl_ok {O1 T2 : List Nat} {f : M D} {fl fh : M (Option Int)} {d r : D} {lo hi : Option Int} {ρ ρ1 ρ2 ρ3 : Vl.Env} (h1 : f ρ = some (d, ρ1)) (h2 : fl ρ1 = some (lo, ρ2)) (h3 : fh ρ2 = some (hi, ρ3)) (hs : safe O1 T2 d = true) (h4 : gSl d lo hi = some r) : fSl O1 T2 f fl fh ρ = some (r, ρ3) := by
  show (f ρ).bind _ = _
  rw [h1, Option.bind_some, h2, Option.bind_some, h3, Option.bind_some, if_pos hs, h4]
  rfl
theorem osome_ok {f : M D} {i : Int} {ρ ρ1 : Vl.Env} (h : f ρ = some (.int i, ρ1)) : oSome f ρ = some (some i, ρ1) := by
  show (f ρ).bind _ = _
  rw [h]
  rfl
theorem lr_in (z : D) (x2 : Option D) : ∀ (b a : List Int) (x3 : Option D), a.length + b.length ≤ 1000 → ∃ y3, forL (gNm 3) lrB (nsD (List.range' a.length (b.length - 1))) (lrE z (a ++ b) x2 x3) = some (.nx (lrE z (a ++ red1 b) x2 y3))
  | [], a, x3, _ => ⟨x3, rfl⟩
  | [x], a, x3, _ => ⟨x3, rfl⟩
  | x :: y :: r, a, x3, hl => by
    have ll : (x :: y :: r).length - 1 = r.length + 1 := by simp
    rw [ll, List.range'_succ, nsD_cons]
    have g0 : (a ++ x :: y :: r)[a.length]? = some x := by simp
    have g1 : (a ++ x :: y :: r)[a.length + 1]? = some y := by
      rw [List.getElem?_append_right (by omega), show a.length + 1 - a.length = 1 by omega]
      rfl
    have i0 := atI_i g0
    have i1 := atI_i g1
    have tst : fB (fOp [1] [] gEq (fOp [1] [] gIxA (fVar 1) (fVar 3)) (fOp [] [] gSub (fC (.int 0)) (fOp [1] [] gIxA (fVar 1) (fOp [3] [] gAdd (fVar 3) (fC (.int 1)))))) (lrE z (a ++ x :: y :: r) x2 (some (.int (a.length : Nat)))) = some (decide (x = 0 - y), lrE z (a ++ x :: y :: r) x2 (some (.int (a.length : Nat)))) :=
      b_ok (op_ok (ixl_ok rfl rfl rfl i0) (op_ok rfl (ixl_ok rfl (op_ok rfl rfl rfl (gAdd_i _ _)) rfl i1) rfl (gSub_i _ _)) rfl (gEq_i _ _))
    by_cases c : x = -y
    · rw [decide_eq_true (show x = 0 - y by omega)] at tst
      have s1 : gSl (.lst true ((a ++ x :: y :: r).map D.int)) none (some (a.length : Nat)) = some (.lst true (a.map D.int)) := by
        show (if D.noOwnL ((a ++ x :: y :: r).map D.int) = true then some (D.lst true (cutL ((a ++ x :: y :: r).map D.int) none (some (a.length : Nat)))) else none) = _
        rw [noOwnL_ints, if_pos rfl]
        unfold cutL
        rw [HT.sIx_none, HT.sIx_nat, List.drop_zero, Nat.sub_zero, List.length_map, Nat.min_eq_left (by simp), ← List.map_take, List.take_left' rfl]
      have s2 : gSl (.lst true ((a ++ x :: y :: r).map D.int)) (some ((a.length : Nat) + 2)) none = some (.lst true (r.map D.int)) := by
        show (if D.noOwnL ((a ++ x :: y :: r).map D.int) = true then some (D.lst true (cutL ((a ++ x :: y :: r).map D.int) (some ((a.length + 2 : Nat) : Int)) none)) else none) = _
        rw [noOwnL_ints, if_pos rfl]
        unfold cutL
        rw [HT.sIx_none, HT.sIx_nat, List.length_map, Nat.min_eq_left (by simp), ← List.map_drop, ← List.map_take]
        have e : (a ++ x :: y :: r).drop (a.length + 2) = r := by
          rw [List.drop_append, List.drop_eq_nil_of_le (by omega), show a.length + 2 - a.length = 2 by omega]
          rfl
        rw [e, List.take_of_length_le (by simp; omega)]
      have rl : r.length ≤ 1000 := by simp at hl; omega
      refine ⟨some (.int (a.length : Nat)), ?_⟩
      refine (forL_bk (ρ1 := lrE z (a ++ x :: y :: r) x2 (some (.int (a.length : Nat)))) (ρ2 := lrE z (a ++ r) x2 (some (.int (a.length : Nat)))) rfl ?_).trans ?_
      · refine (if_t tst).trans ?_
        refine (seq_nx (ρ' := lrE z (a ++ r) x2 (some (.int (a.length : Nat)))) (set_to (op_ok (sl_ok rfl rfl (osome_ok rfl) rfl s1) (sl_ok rfl (osome_ok (op_ok rfl rfl rfl (gAdd_i _ _))) rfl rfl s2) rfl (gAdd_l (by omega))) rfl)).trans ?_
        rfl
      · unfold red1
        rw [if_pos c]
    · rw [decide_eq_false (show ¬ x = 0 - y by omega)] at tst
      obtain ⟨y3, ih⟩ := lr_in z x2 (y :: r) (a ++ [x]) (some (.int (a.length : Nat))) (by simp at hl ⊢; omega)
      refine ⟨y3, ?_⟩
      rw [forL_nx (ρ1 := lrE z (a ++ x :: y :: r) x2 (some (.int (a.length : Nat)))) (ρ2 := lrE z (a ++ x :: y :: r) x2 (some (.int (a.length : Nat)))) rfl ((if_f tst).trans rfl)]
      unfold red1
      rw [if_neg c]
      rw [List.length_append, List.length_singleton, show (y :: r).length - 1 = r.length by simp, List.append_assoc, List.append_assoc] at ih
      exact ih
theorem lr_turn (z : D) (x2 x3 : Option D) (l : List Int) (hl : l.length ≤ 1000) : ∃ y3, lrF (lrE z l x2 x3) = some (.nx (lrE z (red1 l) x2 y3)) := by
  obtain ⟨y3, h⟩ := lr_in z x2 l [] x3 (by simpa using hl)
  refine ⟨y3, ?_⟩
  have it : iRg1 (fCons [] [] (fOp [] [] gSub (fCl gLen (fCons [1] [] (fVar 1) fNil)) (fC (.int 1))) fNil) (lrE z l x2 x3) = some (nsD (List.range' ([] : List Int).length (l.length - 1)), lrE z l x2 x3) := by
    have e := iRg1_ok (ρ := lrE z l x2 x3) (fr := fCons [] [] (fOp [] [] gSub (fCl gLen (fCons [1] [] (fVar 1) fNil)) (fC (.int 1))) fNil) (j := (l.length : Nat) - 1) (cons_ok (op_ok (cl_ok (cons_ok rfl rfl rfl) (show gLen [.lst true (l.map D.int)] = some (.int (l.length : Nat)) by rw [gLen_l, List.length_map])) rfl rfl (gSub_i _ _)) rfl rfl) (by
      unfold okR
      rw [decide_eq_true (by omega), decide_eq_true (by omega)]
      rfl)
    rw [e, show ((l.length : Nat) - 1 : Int).toNat = l.length - 1 by omega, rg0_ns, List.range_eq_range']
    rfl
  exact (for_it it).trans h
theorem lreduced_ok {w : List Int} (hl : w.length ≤ 1000) : F__law_reduced [.tup (w.map D.int)] = some (.tup ((w.foldl stp []).map D.int), []) := by
  obtain ⟨ρ', hf, y2, y3, rfl⟩ := for_inv (i := 2) (body := lrF) (fun k ρ => ∃ x2 x3, ρ = lrE (.tup (w.map D.int)) (rdK w k) x2 x3) (nsD (List.range w.length)) 0 (lrE (.tup (w.map D.int)) w none none) ⟨none, none, rfl⟩ fun j d ρ hd hI => by
    obtain ⟨x2, x3, rfl⟩ := hI
    rw [Nat.zero_add]
    have := rdK_len w j
    obtain ⟨y3, h⟩ := lr_turn (.tup (w.map D.int)) (some d) x3 (rdK w j) (by omega)
    exact ⟨_, h, _, _, rfl⟩
  rw [nsD_len, List.length_range, Nat.zero_add, rdK_ok w.length w (by omega)] at hf
  rw [lr_split]
  refine run_at (ρ0 := [some (.tup (w.map D.int)), none, none, none]) (ρ := lrE (.tup (w.map D.int)) (w.foldl stp []) y2 y3) rfl rfl ?_
  rw [seq_nx (ρ' := lrE (.tup (w.map D.int)) w none none) (set_to (cl_ok (cons_ok rfl rfl rfl) (if_pos (noOwnL_ints w))) rfl)]
  rw [seq_nx ((for_it (iRg1_ns w.length (cons_ok (cl_ok (cons_ok rfl rfl rfl) (gLen_t _)) rfl rfl) (by rw [List.length_map]) (by omega))).trans hf)]
  exact ret_ok (cl_ok (cons_ok rfl rfl rfl) (gTuple_z _ _))
end G09

namespace G09
open PySem PySem.Spec PyProof.Rows L2 Vl Pm
theorem run_at1 {np n : Nat} {b : MS} {ds : List D} {d o : D} {ρ ρ0 : Vl.Env} (hl : ds.length = np) (e : ds.map some ++ List.replicate (n - np) none = ρ0) (h : b ρ0 = some (.rt d ρ)) (ho : Env.at ρ 0 = some o) : runF np 1 n b ds = some (d, [o]) := by
  subst e
  unfold runF
  rw [if_pos hl, h]
  show (outs 1 ρ).bind _ = _
  have e : outs 1 ρ = some [o] := by
    show ((some ([] : List D)).bind fun l => (Env.at ρ 0).bind fun d => some (l ++ [d])) = _
    rw [ho]
    rfl
  rw [e]
  rfl
/-! ### the law's braids -/
abbrev lbB : MS := (sSeq (sSet 6 (fOp [] [0] gAdd (fC (.int 1)) (fCallM F__law_draw 0 (fCons [] [] (fOp [3] [] gSub (fVar 3) (fC (.int 1))) fNil)))) (sDrop (fMut 4 "list" gAppend (fCons [] [] (chk (fOp [] [0] gIxA (fLst (fCons [] [] (fAli 6) (fCons [] [] (fOp [] [] gSub (fC (.int 0)) (fVar 6)) fNil))) (fCallM F__law_draw 0 (fCons [] [] (fC (.int 2)) fNil)))) fNil))))
theorem lb_split : F__law_braid = runF 3 1 7 (sSeq (sSet 3 (fOp [] [0] gAdd (fC (.int 2)) (fCallM F__law_draw 0 (fCons [] [] (fOp [1] [] gSub (fVar 1) (fC (.int 1))) fNil)))) (sSeq (sSet 4 (fLst fNil)) (sSeq (sFor (iRg1 (fCons [] [] (fCallM F__law_draw 0 (fCons [] [] (fOp [2] [] gAdd (fVar 2) (fC (.int 1))) fNil)) fNil)) (gNm 5) lbB) (sRet (fTup (fCons [] [] (fAli 3) (fCons [] [] (fCl gTuple (fCons [4] [] (fVar 4) fNil)) fNil))))))) := rfl
abbrev lbE (s : D) (m l n : Int) (w : List Int) (x5 x6 : Option D) : Vl.Env := [some s, some (.int m), some (.int l), some (.int n), some (.lst true (w.map D.int)), x5, x6]
theorem braid_ok (l : Int) (h0 : 0 ≤ l) (h1 : l ≤ 1000) (s : D) (hs : IsSt s) : ∃ (s' : D) (n : Nat) (w : List Int), F__law_braid [s, .int 8, .int l] = some (brD (n : Nat) w, [s']) ∧ IsSt s' ∧ 2 ≤ n ∧ n ≤ 8 ∧ (w.length : Int) ≤ l ∧ Wd n w := by
  obtain ⟨r, s1, d1, hs1, r1, r2⟩ := draw s 7 hs (by decide) (by decide)
  obtain ⟨c, s2, d2, hs2, c1, c2⟩ := draw s1 (l + 1) hs1 (by omega) (by omega)
  obtain ⟨n, hn⟩ : ∃ n : Nat, 2 + r = (n : Nat) := ⟨(2 + r).toNat, by omega⟩
  obtain ⟨k, hk⟩ : ∃ k : Nat, c = (k : Nat) := ⟨c.toNat, by omega⟩
  subst hk
  obtain ⟨ρ', hf, s3, w, x5, x6, rfl, hs3, wl, wd⟩ := for_inv (i := 5) (body := lbB) (fun j ρ => ∃ (s : D) (w : List Int) (x5 x6 : Option D), ρ = lbE s 8 l (n : Nat) w x5 x6 ∧ IsSt s ∧ w.length = j ∧ Wd n w) (nsD (List.range k)) 0 (lbE s2 8 l (n : Nat) [] none none) ⟨s2, [], none, none, rfl, hs2, rfl, fun x hx => (by cases hx)⟩ fun j d ρ hd hI => by
    obtain ⟨t, w, x5, x6, rfl, ht, wl, wd⟩ := hI
    obtain ⟨hj, rfl⟩ := ns_get hd
    rw [List.length_range] at hj
    obtain ⟨a, t1, e1, ht1, a1, a2⟩ := draw t ((n : Nat) - 1) ht (by omega) (by omega)
    obtain ⟨b, t2, e2, ht2, b1, b2⟩ := draw t1 2 ht1 (by decide) (by decide)
    have sx : ∃ x, L2.atI [D.int (1 + a), D.int (0 - (1 + a))] b = some (.int x) ∧ x ≠ 0 ∧ x.natAbs < n := by
      rcases (show b = 0 ∨ b = 1 by omega) with rfl | rfl
      · exact ⟨1 + a, rfl, by omega, by omega⟩
      · exact ⟨0 - (1 + a), rfl, by omega, by omega⟩
    obtain ⟨x, ex, x0, xn⟩ := sx
    refine ⟨lbE t2 8 l (n : Nat) (w ++ [x]) (some (.int (ix (List.range k) j : Nat))) (some (.int (1 + a))), ?_, t2, w ++ [x], _, _, rfl, ht2, by rw [List.length_append, wl]; rfl, fun y hy => ?_⟩
    · refine (seq_nx (ρ' := lbE t1 8 l (n : Nat) w (some (.int (ix (List.range k) j : Nat))) (some (.int (1 + a)))) (set_to (op_ok rfl (callM_ok rfl (cons_ok (op_ok rfl rfl rfl (gSub_i _ _)) rfl rfl) rfl rfl e1 rfl) rfl (gAdd_i _ _)) rfl)).trans ?_
      have ap : gAppend (.lst true (w.map D.int)) [.int x] = some (.non, .lst true ((w ++ [x]).map D.int)) := by
        rw [gAppD (by rw [List.length_map]; omega), List.map_append]
        rfl
      exact drop_ok (mut_ok (ρ1 := lbE t2 8 l (n : Nat) w (some (.int (ix (List.range k) j : Nat))) (some (.int (1 + a)))) rfl rfl (cons_ok (chk_ok (ixl_ok (lst_ok (cons_ok (ali_ok rfl rfl) (cons_ok (op_ok rfl rfl rfl (gSub_i _ _)) rfl rfl) rfl) rfl) (callM_ok rfl (cons_ok rfl rfl rfl) rfl rfl e2 rfl) rfl ex) rfl) rfl rfl) rfl ap rfl)
    · rcases List.mem_append.mp hy with hy | hy
      · exact wd y hy
      · rw [List.mem_singleton.mp hy]
        exact ⟨x0, xn⟩
  rw [nsD_len, List.length_range, Nat.zero_add] at wl
  refine ⟨s3, n, w, ?_, hs3, by omega, by omega, by omega, wd⟩
  rw [lb_split]
  refine run_at1 (ρ0 := [some s, some (.int 8), some (.int l), none, none, none, none]) (ρ := lbE s3 8 l (n : Nat) w x5 x6) rfl rfl ?_ rfl
  rw [seq_nx (ρ' := [some s1, some (.int 8), some (.int l), some (.int (n : Nat)), none, none, none]) (set_to (op_ok rfl (callM_ok rfl (cons_ok rfl rfl rfl) rfl rfl d1 rfl) rfl (gAdd_i _ _)) (by rw [hn]; rfl))]
  rw [seq_nx (ρ' := lbE s1 8 l (n : Nat) [] none none) (set_to (lst_ok (ds := []) rfl rfl) rfl)]
  have it : iRg1 (fCons [] [] (fCallM F__law_draw 0 (fCons [] [] (fOp [2] [] gAdd (fVar 2) (fC (.int 1))) fNil)) fNil) (lbE s1 8 l (n : Nat) [] none none) = some (nsD (List.range k), lbE s2 8 l (n : Nat) [] none none) := by
    rw [iRg1_ok (ρ1 := lbE s2 8 l (n : Nat) [] none none) (cons_ok (callM_ok rfl (cons_ok (op_ok rfl rfl rfl (gAdd_i _ _)) rfl rfl) rfl rfl d2 rfl) rfl rfl) (okR_n (by omega) (by omega)), Int.toNat_natCast, rg0_ns]
  rw [seq_nx ((for_it it).trans hf)]
  exact ret_ok (tup_ok (cons_ok (ali_ok rfl rfl) (cons_ok (cl_ok (cons_ok rfl rfl rfl) (gTuple_z _ _)) rfl rfl) rfl) rfl)
/-! ### braid_fault -/
def badD (n : Int) : D → Bool
  | .int x => decide (x = 0) || decide (n ≤ (x.natAbs : Nat))
  | _ => true
def okK : D → Bool
  | .int _ => true
  | .bl _ => true
  | .str _ => true
  | .non => true
  | _ => false
abbrev bfE : M D := (fOrV (fNotV (fCall F_is_integer (fCons [1] [] (fVar 1) fNil))) (fOrV (fOp [1] [] gEq (fVar 1) (fC (.int 0))) (fOp [] [] gGe (fCl gAbs (fCons [1] [] (fVar 1) fNil)) (fOp [0] [] gIxA (fVar 0) (fC (.int 0))))))
theorem orv_t {a b : M D} {ρ ρ1 : Vl.Env} (h : a ρ = some (.bl true, ρ1)) : fOrV a b ρ = some (.bl true, ρ1) := by
  show (fB a ρ).bind _ = _
  rw [b_ok h]
  rfl
theorem orv_f {a b : M D} {ρ ρ1 : Vl.Env} (h : a ρ = some (.bl false, ρ1)) : fOrV a b ρ = b ρ1 := by
  show (fB a ρ).bind _ = _
  rw [b_ok h]
  rfl
theorem notv_ok {a : M D} {k : Bool} {ρ ρ1 : Vl.Env} (h : a ρ = some (.bl k, ρ1)) : fNotV a ρ = some (.bl (!k), ρ1) := by
  show (fB a ρ).bind _ = _
  rw [b_ok h]
  rfl
theorem andv_f {a b : M D} {ρ ρ1 : Vl.Env} (h : a ρ = some (.bl false, ρ1)) : fAndV a b ρ = some (.bl false, ρ1) := by
  show (fB a ρ).bind _ = _
  rw [b_ok h]
  rfl
theorem chain_t {O1 T2 O2 T3 : List Nat} {g g' : D → D → Option D} {fa fb fc : M D} {a b c d : D} {ρ ρ1 ρ2 ρ3 : Vl.Env} (h1 : fa ρ = some (a, ρ1)) (h2 : fb ρ1 = some (b, ρ2)) (s1 : safe O1 T2 a = true) (g1 : g a b = some (.bl true)) (h3 : fc ρ2 = some (c, ρ3)) (s2 : safe O2 T3 b = true) (g2 : g' b c = some d) : fChain O1 T2 O2 T3 g g' fa fb fc ρ = some (d, ρ3) := by
  show (fa ρ).bind _ = _
  rw [h1, Option.bind_some, h2, Option.bind_some, if_pos s1, g1, Option.bind_some]
  show (fc ρ2).bind _ = _
  rw [h3, Option.bind_some, if_pos s2, g2]
  rfl
theorem chain_f {O1 T2 O2 T3 : List Nat} {g g' : D → D → Option D} {fa fb fc : M D} {a b : D} {ρ ρ1 ρ2 : Vl.Env} (h1 : fa ρ = some (a, ρ1)) (h2 : fb ρ1 = some (b, ρ2)) (s1 : safe O1 T2 a = true) (g1 : g a b = some (.bl false)) : fChain O1 T2 O2 T3 g g' fa fb fc ρ = some (.bl false, ρ2) := by
  show (fa ρ).bind _ = _
  rw [h1, Option.bind_some, h2, Option.bind_some, if_pos s1, g1, Option.bind_some]
theorem isn_ok {c : String} {f : M D} {d : D} {k : Bool} {ρ ρ1 : Vl.Env} (h : f ρ = some (d, ρ1)) (hn : notLk d = true) (hk : kitB (tagOf d) c = some k) : fIsN c f ρ = some (.bl k, ρ1) := by
  show (f ρ).bind _ = _
  rw [h, Option.bind_some, if_pos hn, hk]
  rfl
theorem kb1 : kitB "int" "int" = some true := by decide +kernel
theorem kb2 : kitB "int" "bool" = some false := by decide +kernel
theorem kb3 : kitB "bool" "int" = some true := by decide +kernel
theorem kb4 : kitB "bool" "bool" = some true := by decide +kernel
theorem kb5 : kitB "str" "int" = some false := by decide +kernel
theorem kb6 : kitB "NoneType" "int" = some false := by decide +kernel
theorem kb7 : kitB "tuple" "tuple" = some true := by decide +kernel
theorem kb8 : kitB "list" "tuple" = some false := by decide +kernel
theorem kb9 : kitB "str" "tuple" = some false := by decide +kernel
theorem kb10 : kitB "NoneType" "tuple" = some false := by decide +kernel
theorem kb11 : kitB "int" "tuple" = some false := by decide +kernel
theorem isi_i (x : Int) (r : Vl.Env) : fIsN "int" (fVar 0) (some (.int x) :: r) = some (.bl true, some (.int x) :: r) := isn_ok (d := .int x) rfl rfl kb1
theorem isb_i (x : Int) (r : Vl.Env) : fIsN "bool" (fVar 0) (some (.int x) :: r) = some (.bl false, some (.int x) :: r) := isn_ok (d := .int x) rfl rfl kb2
theorem isi_b (x : Bool) (r : Vl.Env) : fIsN "int" (fVar 0) (some (.bl x) :: r) = some (.bl true, some (.bl x) :: r) := isn_ok (d := .bl x) rfl rfl kb3
theorem isb_b (x : Bool) (r : Vl.Env) : fIsN "bool" (fVar 0) (some (.bl x) :: r) = some (.bl true, some (.bl x) :: r) := isn_ok (d := .bl x) rfl rfl kb4
theorem isi_s (x : Str) (r : Vl.Env) : fIsN "int" (fVar 0) (some (.str x) :: r) = some (.bl false, some (.str x) :: r) := isn_ok (d := .str x) rfl rfl kb5
theorem isi_n (r : Vl.Env) : fIsN "int" (fVar 0) (some .non :: r) = some (.bl false, some .non :: r) := isn_ok (d := .non) rfl rfl kb6
theorem int_i (x : Int) : F_is_integer [.int x] = some (.bl true, []) :=
  run_at (ρ0 := [some (.int x)]) (ρ := [some (.int x)]) rfl rfl (ret_ok ((andv_t (isi_i x [])).trans (notv_ok (isb_i x []))))
theorem int_b (x : Bool) : F_is_integer [.bl x] = some (.bl false, []) :=
  run_at (ρ0 := [some (.bl x)]) (ρ := [some (.bl x)]) rfl rfl (ret_ok ((andv_t (isi_b x [])).trans (notv_ok (isb_b x []))))
theorem int_s (x : Str) : F_is_integer [.str x] = some (.bl false, []) :=
  run_at (ρ0 := [some (.str x)]) (ρ := [some (.str x)]) rfl rfl (ret_ok (andv_f (isi_s x [])))
theorem int_n : F_is_integer [.non] = some (.bl false, []) :=
  run_at (ρ0 := [some .non]) (ρ := [some .non]) rfl rfl (ret_ok (andv_f (isi_n [])))
theorem bf_elem {n : Int} {v d : D} (hv : ∀ ρ : Vl.Env, Env.at ρ 0 = some v → fOp [0] [] gIxA (fVar 0) (fC (.int 0)) ρ = some (.int n, ρ)) (hd : okK d = true) : bfE [some v, some d] = some (.bl (badD n d), [some v, some d]) := by
  have nt : ∀ {k : Bool}, F_is_integer [d] = some (.bl k, []) → D.frzL [d] = [d] → D.noOwnL [d] = true → fNotV (fCall F_is_integer (fCons [1] [] (fVar 1) fNil)) [some v, some d] = some (.bl (!k), [some v, some d]) := fun {k} h h2 h3 => notv_ok (call_ok (cons_ok rfl rfl rfl) h2 h3 h)
  cases d with
  | int x =>
    refine (orv_f (nt (int_i x) rfl rfl)).trans ?_
    by_cases c : x = 0
    · rw [show badD n (.int x) = true by show (decide (x = 0) || decide (n ≤ (x.natAbs : Nat))) = true; rw [decide_eq_true c]; rfl]
      exact orv_t (op_ok rfl rfl rfl ((gEq_i x 0).trans (by rw [decide_eq_true c])))
    · rw [show badD n (.int x) = decide (n ≤ (x.natAbs : Nat)) by show (decide (x = 0) || decide (n ≤ (x.natAbs : Nat))) = _; rw [decide_eq_false c]; rfl]
      refine (orv_f (op_ok rfl rfl rfl ((gEq_i x 0).trans (by rw [decide_eq_false c])))).trans ?_
      exact op_ok (abs1 rfl) (hv _ rfl) rfl (gGe_i _ _)
  | bl b => exact orv_t (nt (int_b b) rfl rfl)
  | str s => exact orv_t (nt (int_s s) rfl rfl)
  | non => exact orv_t (nt int_n rfl rfl)
  | tup _ => cases hd
  | lst _ _ => cases hd
  | dct _ _ _ => cases hd
  | scr _ => cases hd
  | xt _ => cases hd
theorem bls_map (l : List D) (f : D → Bool) : bls? (l.map fun d => .bl (f d)) = some (l.map f) := by
  induction l with
  | nil => rfl
  | cons x r ih =>
    show (bls? (r.map fun d => .bl (f d))).bind _ = _
    rw [ih]
    rfl
abbrev bf1 : MS := (sIf (fOr (fNot (fTr (fCall F_is_row (fCons [0] [] (fVar 0) (fCons [] [] (fC (.int 2)) fNil))))) (fNot (fTr (fIsN "tuple" (fOp [0] [] gIxA (fVar 0) (fC (.int 1))))))) (sRet (fC (.str "form"))) sNil)
abbrev bf2 : MS := (sIf (fNot (fTr (fCall F_is_between (fCons [0] [] (fOp [0] [] gIxA (fVar 0) (fC (.int 0))) (fCons [] [] (fC (.int 1)) (fCons [] [] (fC c_MOST_STRANDS) fNil)))))) (sRet (fC (.str "strands"))) sNil)
abbrev bf3 : MS := (sIf (fTr (fCl gAny (fCons [] [] (fComp [1] (iSeq (fOp [0] [] gIxA (fVar 0) (fC (.int 1)))) (gNm 1) fYes bfE) fNil))) (sRet (fC (.str "letters"))) sNil)
theorem bf_split : F_braid_fault = runF 1 0 2 (sSeq bf1 (sSeq bf2 (sSeq bf3 (sRet (fC .non))))) := rfl
theorem not_ok {f : M Bool} {k : Bool} {ρ ρ1 : Vl.Env} (h : f ρ = some (k, ρ1)) : fNot f ρ = some (!k, ρ1) := by
  show (f ρ).bind _ = _
  rw [h]
  rfl
theorem frzL_k : ∀ ds : List D, ds.all okK = true → D.frzL ds = ds ∧ D.noOwnL ds = true
  | [], _ => ⟨rfl, rfl⟩
  | d :: r, h => by
    rw [List.all_cons, Bool.and_eq_true] at h
    obtain ⟨h1, h2⟩ := frzL_k r h.2
    have e : d.frz = d ∧ d.noOwn = true := by
      cases d <;> first | exact ⟨rfl, rfl⟩ | cases h.1
    constructor
    · show d.frz :: D.frzL r = _
      rw [e.1, h1]
    · show (d.noOwn && D.noOwnL r) = true
      rw [e.2, h2]
      rfl
theorem bf_ok {n : Int} {ds : List D} (h1 : 1 ≤ n) (h2 : n ≤ 12) (hk : ds.all okK = true) (hl : ds.length ≤ 1000) : F_braid_fault [.tup [.int n, .tup ds]] = some (if ds.any (badD n) = true then .str "letters" else .non, []) := by
  obtain ⟨z1, z2⟩ := frzL_k ds hk
  have hv : ∀ ρ : Vl.Env, Env.at ρ 0 = some (.tup [.int n, .tup ds]) → fOp [0] [] gIxA (fVar 0) (fC (.int 0)) ρ = some (.int n, ρ) := fun ρ h => ixt_ok (var_ok h) rfl (safe_r1 _ _) rfl
  have fz : D.frz (.tup [.int n, .tup ds]) = .tup [.int n, .tup ds] := by
    show D.tup [.int n, .tup (D.frzL ds)] = _
    rw [z1]
  have no : D.noOwn (.tup [.int n, .tup ds]) = true := by
    show (true && (D.noOwnL ds && true)) = true
    rw [z2]
    rfl
  have s1 : bf1 [some (.tup [.int n, .tup ds]), none] = some (.nx [some (.tup [.int n, .tup ds]), none]) := by
    have r : F_is_row [.tup [.int n, .tup ds], .int 2] = some (.bl true, []) := run_at (ρ0 := [some (.tup [.int n, .tup ds]), some (.int 2)]) (ρ := [some (.tup [.int n, .tup ds]), some (.int 2)]) rfl rfl (ret_ok ((andv_t (isn_ok (d := .tup [.int n, .tup ds]) rfl rfl kb7)).trans (op_ok (cl_ok (cons_ok rfl rfl rfl) rfl) rfl rfl (gEq_i _ _))))
    have a := call_ok (ρ := [some (.tup [.int n, .tup ds]), none]) (ρ1 := [some (.tup [.int n, .tup ds]), none]) (fr := (fCons [0] [] (fVar 0) (fCons [] [] (fC (.int 2)) fNil))) (ds := [.tup [.int n, .tup ds], .int 2]) (cons_ok rfl (cons_ok rfl rfl rfl) rfl) (frzL2 fz rfl) (noL2 no rfl) r
    exact (if_f ((or_f (not_ok (tr_ok a rfl))).trans (not_ok (tr_ok (k := true) (ρ1 := [some (.tup [.int n, .tup ds]), none]) (d := .bl true) (isn_ok (d := .tup ds) (ixt_ok rfl rfl rfl rfl) rfl kb7) rfl)))).trans rfl
  have s2 : bf2 [some (.tup [.int n, .tup ds]), none] = some (.nx [some (.tup [.int n, .tup ds]), none]) := by
    have r : F_is_between [.int n, .int 1, .int 12] = some (.bl true, []) := by
      unfold F_is_between
      refine run_at (ρ0 := [some (.int n), some (.int 1), some (.int 12)]) (ρ := [some (.int n), some (.int 1), some (.int 12)]) rfl rfl (ret_ok ((andv_t (call_ok (cons_ok rfl rfl rfl) rfl rfl (int_i n))).trans ?_))
      exact chain_t rfl rfl rfl ((gLe_i _ _).trans (by rw [decide_eq_true h1])) rfl rfl ((gLe_i _ _).trans (by rw [decide_eq_true h2]))
    have a := call_ok (ρ := [some (.tup [.int n, .tup ds]), none]) (ρ1 := [some (.tup [.int n, .tup ds]), none]) (fr := (fCons [0] [] (fOp [0] [] gIxA (fVar 0) (fC (.int 0))) (fCons [] [] (fC (.int 1)) (fCons [] [] (fC c_MOST_STRANDS) fNil)))) (ds := [.int n, .int 1, .int 12]) (cons_ok (hv _ rfl) (cons_ok rfl (cons_ok rfl rfl rfl) rfl) rfl) rfl rfl r
    exact (if_f (not_ok (tr_ok a rfl))).trans rfl
  have s3 : fTr (fCl gAny (fCons [] [] (fComp [1] (iSeq (fOp [0] [] gIxA (fVar 0) (fC (.int 1)))) (gNm 1) fYes bfE) fNil)) [some (.tup [.int n, .tup ds]), none] = some (ds.any (badD n), [some (.tup [.int n, .tup ds]), none]) := by
    have c := fComp_all (i := 1) (ρ0 := [some (.tup [.int n, .tup ds]), none]) (ρ1 := [some (.tup [.int n, .tup ds]), none]) (fi := (iSeq (fOp [0] [] gIxA (fVar 0) (fC (.int 1))))) (fe := bfE) (items := ds) (fun d => .bl (badD n d)) (seq_it (d := .tup ds) (ixt_ok rfl rfl rfl rfl) (if_pos z2)) rfl (fun d hd => bf_elem hv (List.all_eq_true.mp hk d hd)) (by omega)
    have g : gAny [.lst true (ds.map fun d => .bl (badD n d))] = some (.bl (ds.any (badD n))) := by
      show (bls? _).bind _ = _
      rw [bls_map, Option.bind_some, List.any_map]
      rfl
    exact tr_ok (cl_ok (cons_ok c rfl rfl) g) rfl
  rw [bf_split]
  refine run_at (ρ0 := [some (.tup [.int n, .tup ds]), none]) (ρ := [some (.tup [.int n, .tup ds]), none]) rfl rfl ?_
  rw [seq_nx s1, seq_nx s2]
  by_cases c : ds.any (badD n) = true
  · rw [if_pos c]
    rw [c] at s3
    exact seq_rt ((if_t s3).trans rfl)
  · rw [if_neg c]
    rw [Bool.eq_false_iff.mpr c] at s3
    rw [seq_nx (ρ' := [some (.tup [.int n, .tup ds]), none]) ((if_f s3).trans rfl)]
    rfl
end G09

namespace G09
open PySem PySem.Spec PyProof.Rows L2 Vl Pm
abbrev X1 : MS := (sAsg (gTp 2 (gsCons (gNm 2) (gsCons (gNm 3) gsNil))) (fVar 1))
abbrev X2 : MS := (sSet 4 (fLst (fCons [] [2, 2] (fTup (fCons [] [] (fC .non) (fCons [] [] (fC (.str "form")) fNil))) (fCons [] [2] (fTup (fCons [] [] (fTup (fCons [] [] (fAli 2) fNil)) (fCons [] [] (fC (.str "form")) fNil))) (fCons [] [] (fFz (fTup (fCons [] [] (fFz (fTup (fCons [] [] (fAli 2) (fCons [] [] (fFz (fCl gListA (fCons [3] [] (fVar 3) fNil))) fNil)))) (fCons [] [] (fC (.str "form")) fNil)))) (fCons [] [] (fTup (fCons [] [] (fOp [1] [] gAdd (fVar 1) (fTup (fCons [] [] (fC (.int 1)) fNil))) (fCons [] [] (fC (.str "form")) fNil))) (fCons [] [] (fTup (fCons [] [] (fC (.str "3:")) (fCons [] [] (fC (.str "form")) fNil))) fNil)))))))
abbrev X3 : MS := (sSet 4 (fOp [4] [] gAdd (fVar 4) (fLst (fCons [] [] (fTup (fCons [] [] (fTup (fCons [] [] (fC (.int 0)) (fCons [] [] (fTup fNil) fNil))) (fCons [] [] (fC (.str "strands")) fNil))) (fCons [] [] (fTup (fCons [] [] (fTup (fCons [] [] (fC (.int 13)) (fCons [] [] (fTup (fCons [] [] (fC (.int 1)) fNil)) fNil))) (fCons [] [] (fC (.str "strands")) fNil))) (fCons [] [] (fTup (fCons [] [] (fTup (fCons [] [] (fC (.bl true)) (fCons [] [] (fTup fNil) fNil))) (fCons [] [] (fC (.str "strands")) fNil))) (fCons [] [] (fTup (fCons [] [] (fTup (fCons [] [] (fC (.str "3")) (fCons [] [] (fTup (fCons [] [] (fC (.int 1)) fNil)) fNil))) (fCons [] [] (fC (.str "strands")) fNil))) fNil)))))))
abbrev X4 : MS := (sSet 4 (fOp [4] [2, 2, 2] gAdd (fVar 4) (fLst (fCons [] [2] (fTup (fCons [] [] (fTup (fCons [] [2] (fAli 2) (fCons [] [] (fOp [3] [2] gAdd (fVar 3) (fTup (fCons [] [] (fAli 2) fNil))) fNil))) (fCons [] [] (fC (.str "letters")) fNil))) (fCons [] [] (fTup (fCons [] [] (fTup (fCons [] [] (fAli 2) (fCons [] [] (fOp [] [] gAdd (fTup (fCons [] [] (fC (.int 0)) fNil)) (fVar 3)) fNil))) (fCons [] [] (fC (.str "letters")) fNil))) fNil)))))
abbrev X5 : MS := (sSet 4 (fOp [4] [2, 2, 2] gAdd (fVar 4) (fLst (fCons [] [2, 2] (fTup (fCons [] [] (fTup (fCons [] [] (fAli 2) (fCons [] [] (fOp [3] [] gAdd (fVar 3) (fTup (fCons [] [] (fC (.bl true)) fNil))) fNil))) (fCons [] [] (fC (.str "letters")) fNil))) (fCons [] [2] (fTup (fCons [] [] (fTup (fCons [] [] (fAli 2) (fCons [] [] (fTup (fCons [] [] (fOp [] [] gSub (fC (.int 0)) (fVar 2)) fNil)) fNil))) (fCons [] [] (fC (.str "letters")) fNil))) (fCons [] [] (fTup (fCons [] [] (fTup (fCons [] [] (fAli 2) (fCons [] [] (fTup (fCons [] [] (fC (.str "1")) fNil)) fNil))) (fCons [] [] (fC (.str "letters")) fNil))) fNil))))))
abbrev X6 : MS := (sSet 4 (fOp [4] [2] gAdd (fVar 4) (fLst (fCons [] [2] (fTup (fCons [] [] (fTup (fCons [] [] (fC (.int 0)) (fCons [] [] (fTup (fCons [] [] (fC (.int 0)) fNil)) fNil))) (fCons [] [] (fC (.str "strands")) fNil))) (fCons [] [2] (fTup (fCons [] [] (fTup (fCons [] [] (fC (.int 1)) (fCons [] [] (fTup (fCons [] [] (fC (.int 1)) fNil)) fNil))) (fCons [] [] (fC (.str "letters")) fNil))) (fCons [] [] (fTup (fCons [] [] (fTup (fCons [] [] (fAli 2) (fCons [] [] (fTup (fCons [] [] (fC .non) fNil)) fNil))) (fCons [] [] (fC (.str "letters")) fNil))) (fCons [] [] (fTup (fCons [] [] (fC (.int 7)) (fCons [] [] (fC (.str "form")) fNil))) fNil)))))))
abbrev X7 : MS := (sAsg (gTp 2 (gsCons (gNm 5) (gsCons (gNm 6) gsNil))) (fOp [4] [0] gIxA (fVar 4) (fCallM F__law_draw 0 (fCons [] [] (fCl gLen (fCons [4] [] (fVar 4) fNil)) fNil))))
abbrev X8 : MS := (sRet (fAndV (fOp [] [] gEq (fCall F_braid_fault (fCons [5] [] (fVar 5) fNil)) (fVar 6)) (fAndV (fOp [] [] gIsN (fCall F_braid_fault (fCons [1] [] (fVar 1) fNil)) (fC .non)) (fOp [] [] gIsN (fCall F_braid_fault (fCons [] [] (fTup (fCons [] [] (fC (.int 1)) (fCons [] [] (fTup fNil) fNil))) fNil)) (fC .non)))))
theorem fh_split : F__law_fault_holds = runF 2 1 7 (sSeq X1 (sSeq X2 (sSeq X3 (sSeq X4 (sSeq X5 (sSeq X6 (sSeq X7 X8))))))) := rfl
end G09

namespace G09
open PySem PySem.Spec PyProof.Rows L2 Vl Pm
theorem pr_ok {T : List Nat} {fa fb : M D} {a b : D} {ρ : Vl.Env} (ha : fa ρ = some (a, ρ)) (hb : fb ρ = some (b, ρ)) : fTup (fCons [] T fa (fCons [] [] fb fNil)) ρ = some (.tup [a, b], ρ) := tup_ok (cons_ok ha (cons_ok hb rfl rfl) rfl) rfl
theorem on_ok {fa : M D} {a : D} {ρ : Vl.Env} (ha : fa ρ = some (a, ρ)) : fTup (fCons [] [] fa fNil) ρ = some (.tup [a], ρ) := tup_ok (cons_ok ha rfl rfl) rfl
theorem row_false {v : D} (hr : F_is_row [v, .int 2] = some (.bl false, [])) (hf : v.frz = v) (hn : v.noOwn = true) : F_braid_fault [v] = some (.str "form", []) := by
  rw [bf_split]
  refine run_at (ρ0 := [some v, none]) (ρ := [some v, none]) rfl rfl (seq_rt ((if_t (or_t (not_ok (tr_ok (call_ok (ds := [v, .int 2]) (cons_ok rfl (cons_ok rfl rfl rfl) rfl) (frzL2 hf rfl) (noL2 hn rfl) hr) rfl)))).trans rfl))
theorem row_no {v : D} (hk : kitB (tagOf v) "tuple" = some false) (hn : notLk v = true) : F_is_row [v, .int 2] = some (.bl false, []) :=
  run_at (ρ0 := [some v, some (.int 2)]) (ρ := [some v, some (.int 2)]) rfl rfl (ret_ok (andv_f (isn_ok rfl hn hk)))
theorem row_len {l : List D} (h : l.length ≠ 2) : F_is_row [.tup l, .int 2] = some (.bl false, []) :=
  run_at (ρ0 := [some (.tup l), some (.int 2)]) (ρ := [some (.tup l), some (.int 2)]) rfl rfl (ret_ok ((andv_t (isn_ok (d := .tup l) rfl rfl kb7)).trans (op_ok (cl_ok (cons_ok rfl rfl rfl) (gLen_t l)) rfl rfl ((gEq_i _ _).trans (by rw [decide_eq_false (show ¬ (l.length : Int) = 2 by omega)])))))
theorem row_two {a b : D} : F_is_row [.tup [a, b], .int 2] = some (.bl true, []) :=
  run_at (ρ0 := [some (.tup [a, b]), some (.int 2)]) (ρ := [some (.tup [a, b]), some (.int 2)]) rfl rfl (ret_ok ((andv_t (isn_ok (d := .tup [a, b]) rfl rfl kb7)).trans (op_ok (cl_ok (cons_ok rfl rfl rfl) rfl) rfl rfl (gEq_i _ _))))
theorem fz2 {a b : D} (ha : a.frz = a) (hb : b.frz = b) : (D.tup [a, b]).frz = .tup [a, b] := congrArg D.tup (frzL2 ha hb)
theorem no2 {a b : D} (ha : a.noOwn = true) (hb : b.noOwn = true) : (D.tup [a, b]).noOwn = true := noL2 ha hb
theorem snd_form {a : D} {l : List D} (ha : a.frz = a) (hn : a.noOwn = true) (hl : D.frzL l = l) (hm : D.noOwnL l = true) : F_braid_fault [.tup [a, .lst false l]] = some (.str "form", []) := by
  rw [bf_split]
  refine run_at (ρ0 := [some (.tup [a, .lst false l]), none]) (ρ := [some (.tup [a, .lst false l]), none]) rfl rfl (seq_rt ((if_t ((or_f (not_ok (tr_ok (call_ok (ds := [.tup [a, .lst false l], .int 2]) (cons_ok rfl (cons_ok rfl rfl rfl) rfl) (frzL2 (fz2 ha (congrArg (D.lst false) hl)) rfl) (noL2 (no2 hn hm) rfl) row_two) rfl))).trans (not_ok (tr_ok (isn_ok (d := .lst false l) (ixt_ok rfl rfl rfl rfl) rfl kb8) rfl)))).trans rfl))
theorem strands_bad {a : D} {l : List D} (ha : a.frz = a) (hn : a.noOwn = true) (hl : D.frzL l = l) (hm : D.noOwnL l = true) (hb : F_is_between [a, .int 1, .int 12] = some (.bl false, [])) : F_braid_fault [.tup [a, .tup l]] = some (.str "strands", []) := by
  have r1 : bf1 [some (.tup [a, .tup l]), none] = some (.nx [some (.tup [a, .tup l]), none]) :=
    (if_f ((or_f (not_ok (tr_ok (call_ok (ρ1 := [some (.tup [a, .tup l]), none]) (ds := [.tup [a, .tup l], .int 2]) (cons_ok rfl (cons_ok rfl rfl rfl) rfl) (frzL2 (fz2 ha (congrArg D.tup hl)) rfl) (noL2 (no2 hn hm) rfl) row_two) rfl))).trans (not_ok (tr_ok (isn_ok (d := .tup l) (ixt_ok rfl rfl rfl rfl) rfl kb7) rfl)))).trans rfl
  rw [bf_split]
  refine run_at (ρ0 := [some (.tup [a, .tup l]), none]) (ρ := [some (.tup [a, .tup l]), none]) rfl rfl ?_
  rw [seq_nx r1]
  exact seq_rt ((if_t (not_ok (tr_ok (call_ok (ρ1 := [some (.tup [a, .tup l]), none]) (ds := [a, .int 1, .int 12]) (cons_ok (ixt_ok rfl rfl rfl rfl) (cons_ok rfl (cons_ok rfl rfl rfl) rfl) rfl) (frzL3 ha rfl rfl) (noL3 hn rfl rfl) hb) rfl))).trans rfl)
theorem btw_no {a : D} (h : F_is_integer [a] = some (.bl false, [])) (ha : a.frz = a) (hn : a.noOwn = true) : F_is_between [a, .int 1, .int 12] = some (.bl false, []) :=
  run_at (ρ0 := [some a, some (.int 1), some (.int 12)]) (ρ := [some a, some (.int 1), some (.int 12)]) rfl rfl (ret_ok (andv_f (call_ok (cons_ok rfl rfl rfl) (frzL1 ha) (noL1 hn) h)))
theorem btw_0 : F_is_between [.int 0, .int 1, .int 12] = some (.bl false, []) :=
  run_at (ρ0 := [some (.int 0), some (.int 1), some (.int 12)]) (ρ := [some (.int 0), some (.int 1), some (.int 12)]) rfl rfl (ret_ok ((andv_t (call_ok (cons_ok rfl rfl rfl) rfl rfl (int_i 0))).trans (chain_f rfl rfl rfl (gLe_i _ _))))
theorem btw_13 : F_is_between [.int 13, .int 1, .int 12] = some (.bl false, []) :=
  run_at (ρ0 := [some (.int 13), some (.int 1), some (.int 12)]) (ρ := [some (.int 13), some (.int 1), some (.int 12)]) rfl rfl (ret_ok ((andv_t (call_ok (cons_ok rfl rfl rfl) rfl rfl (int_i 13))).trans (chain_t rfl rfl rfl (gLe_i _ _) rfl rfl (gLe_i _ _))))
theorem kk_ints (l : List Int) : (l.map D.int).all okK = true := by
  rw [List.all_eq_true]
  intro d hd
  obtain ⟨x, _, rfl⟩ := List.mem_map.mp hd
  rfl
abbrev fm (v : D) : D := .tup [v, .str "form"]
abbrev sm (v : D) : D := .tup [v, .str "strands"]
abbrev lm (v : D) : D := .tup [v, .str "letters"]
abbrev w1 (n : Int) (w : List Int) : List D := [fm .non, fm (.tup [.int n]), fm (.tup [.int n, .lst false (w.map D.int)]), fm (.tup [.int n, .tup (w.map D.int), .int 1]), fm (.str "3:")]
abbrev w2 : List D := [sm (.tup [.int 0, .tup []]), sm (.tup [.int 13, .tup [.int 1]]), sm (.tup [.bl true, .tup []]), sm (.tup [.str "3", .tup [.int 1]])]
abbrev w3 (n : Int) (w : List Int) : List D := [lm (.tup [.int n, .tup (w.map D.int ++ [.int n])]), lm (.tup [.int n, .tup ([.int 0] ++ w.map D.int)])]
abbrev w4 (n : Int) (w : List Int) : List D := [lm (.tup [.int n, .tup (w.map D.int ++ [.bl true])]), lm (.tup [.int n, .tup [.int (0 - n)]]), lm (.tup [.int n, .tup [.str "1"]])]
abbrev w5 (n : Int) : List D := [sm (.tup [.int 0, .tup [.int 0]]), lm (.tup [.int 1, .tup [.int 1]]), lm (.tup [.int n, .tup [.non]]), fm (.int 7)]
theorem noL_app : ∀ a b : List D, D.noOwnL (a ++ b) = (D.noOwnL a && D.noOwnL b)
  | [], b => by simp [D.noOwnL]
  | x :: a, b => by
    show (x.noOwn && D.noOwnL (a ++ b)) = ((x.noOwn && D.noOwnL a) && D.noOwnL b)
    rw [noL_app a b, Bool.and_assoc]
theorem frzL_app : ∀ a b : List D, D.frzL (a ++ b) = D.frzL a ++ D.frzL b
  | [], b => rfl
  | x :: a, b => by
    show x.frz :: D.frzL (a ++ b) = _
    rw [frzL_app a b]
    rfl
theorem gAdd_D {o o' : Bool} {a b : List D} (h : a.length + b.length ≤ 100000) (ha : D.noOwnL a = true) (hb : D.noOwnL b = true) : gAdd (.lst o a) (.lst o' b) = some (.lst true (a ++ b)) := by
  show (if (szOk (a.length + b.length) && D.noOwnL a && D.noOwnL b) = true then some (D.lst true (a ++ b)) else none) = _
  rw [show szOk (a.length + b.length) = true from decide_eq_true h, ha, hb]
  rfl
theorem gAdd_T {a b : List D} (h : a.length + b.length ≤ 100000) (ha : D.noOwnL a = true) (hb : D.noOwnL b = true) : gAdd (.tup a) (.tup b) = some (.tup (a ++ b)) := by
  show (if (szOk (a.length + b.length) && D.noOwnL a && D.noOwnL b) = true then some (D.tup (a ++ b)) else none) = _
  rw [show szOk (a.length + b.length) = true from decide_eq_true h, ha, hb]
  rfl
section
variable {n : Nat} {w : List Int} (n1 : 2 ≤ n) (n2 : n ≤ 8) (hl : w.length ≤ 100) (hw : Wd n w)
theorem nw1 (n : Int) (w : List Int) : D.noOwnL (w1 n w) = true := by simp [D.noOwnL, D.noOwn]
theorem nw2 : D.noOwnL w2 = true := rfl
theorem nw3 (n : Int) (w : List Int) : D.noOwnL (w3 n w) = true := by simp [D.noOwnL, D.noOwn, noL_app]
theorem nw4 (n : Int) (w : List Int) : D.noOwnL (w4 n w) = true := by simp [D.noOwnL, D.noOwn, noL_app]
theorem nw5 (n : Int) : D.noOwnL (w5 n) = true := rfl
abbrev fE (s : D) (n : Int) (w : List Int) (l : List D) : Vl.Env := [some s, some (brD n w), some (.int n), some (.tup (w.map D.int)), some (.lst true l), none, none]
theorem x2_ok (s : D) (n : Int) (w : List Int) (hl : w.length ≤ 100) : X2 [some s, some (brD n w), some (.int n), some (.tup (w.map D.int)), none, none, none] = some (.nx (fE s n w (w1 n w))) := by
  have gl : gListA [.tup (w.map D.int)] = some (.lst true (w.map D.int)) := if_pos (noOwnL_ints w)
  have f1 : D.frz (.lst true (w.map D.int)) = .lst false (w.map D.int) := congrArg (D.lst false) (frzL_ints w)
  have f2 : D.frz (.lst false (w.map D.int)) = .lst false (w.map D.int) := congrArg (D.lst false) (frzL_ints w)
  have a1 := fz_ok (cl_ok (fr := (fCons [3] [] (fVar 3) fNil)) (ρ := [some s, some (brD n w), some (.int n), some (.tup (w.map D.int)), none, none, none]) (ρ1 := [some s, some (brD n w), some (.int n), some (.tup (w.map D.int)), none, none, none]) (ds := [.tup (w.map D.int)]) (cons_ok rfl rfl rfl) gl)
  rw [f1] at a1
  have a2 := fz_ok (pr_ok (T := []) (fa := fAli 2) (a := .int n) rfl a1)
  rw [fz2 rfl f2] at a2
  have a3 := fz_ok (pr_ok (T := []) (fb := fC (.str "form")) (b := .str "form") a2 rfl)
  rw [fz2 (fz2 rfl f2) rfl] at a3
  have a4 : gAdd (brD n w) (.tup [.int 1]) = some (.tup [.int n, .tup (w.map D.int), .int 1]) := gAdd_T (show 2 + 1 ≤ 100000 by decide) (noL2 rfl (noOwnL_ints w)) rfl
  exact set_to (lst_ok (cons_ok (pr_ok rfl rfl) (cons_ok (pr_ok (on_ok rfl) rfl) (cons_ok a3 (cons_ok (pr_ok (op_ok rfl (on_ok rfl) rfl a4) rfl) (cons_ok (pr_ok rfl rfl) rfl rfl) rfl) rfl) rfl) rfl) rfl) rfl
theorem x3_ok (s : D) (n : Int) (w : List Int) : X3 (fE s n w (w1 n w)) = some (.nx (fE s n w (w1 n w ++ w2))) :=
  set_to (op_ok rfl (lst_ok (ds := w2) rfl rfl) rfl (gAdd_D (by show 5 + 4 ≤ 100000; decide) (nw1 n w) nw2)) rfl
theorem x4_ok (s : D) (n : Int) (w : List Int) (hl : w.length ≤ 100) : X4 (fE s n w (w1 n w ++ w2)) = some (.nx (fE s n w (w1 n w ++ w2 ++ w3 n w))) := by
  have g1 : gAdd (.tup (w.map D.int)) (.tup [.int n]) = some (.tup (w.map D.int ++ [.int n])) := gAdd_T (by rw [List.length_map]; show w.length + 1 ≤ _; omega) (noOwnL_ints w) rfl
  have g2 : gAdd (.tup [.int 0]) (.tup (w.map D.int)) = some (.tup ([.int 0] ++ w.map D.int)) := gAdd_T (by rw [List.length_map]; show 1 + w.length ≤ _; omega) rfl (noOwnL_ints w)
  exact set_to (op_ok rfl (lst_ok (ds := w3 n w) (cons_ok (pr_ok (pr_ok rfl (op_ok rfl (on_ok rfl) rfl g1)) rfl) (cons_ok (pr_ok (pr_ok rfl (op_ok (on_ok rfl) rfl rfl g2)) rfl) rfl rfl) rfl) rfl) rfl (gAdd_D (by show 9 + 2 ≤ 100000; decide) (by rw [noL_app, nw1, nw2]; rfl) (nw3 n w))) rfl
theorem x5_ok (s : D) (n : Int) (w : List Int) (hl : w.length ≤ 100) : X5 (fE s n w (w1 n w ++ w2 ++ w3 n w)) = some (.nx (fE s n w (w1 n w ++ w2 ++ w3 n w ++ w4 n w))) := by
  have g1 : gAdd (.tup (w.map D.int)) (.tup [.bl true]) = some (.tup (w.map D.int ++ [.bl true])) := gAdd_T (by rw [List.length_map]; show w.length + 1 ≤ _; omega) (noOwnL_ints w) rfl
  exact set_to (op_ok rfl (lst_ok (ds := w4 n w) (cons_ok (pr_ok (pr_ok rfl (op_ok rfl (on_ok rfl) rfl g1)) rfl) (cons_ok (pr_ok (pr_ok rfl (on_ok (op_ok rfl rfl rfl (gSub_i _ _)))) rfl) (cons_ok (pr_ok (pr_ok rfl (on_ok rfl)) rfl) rfl rfl) rfl) rfl) rfl) rfl (gAdd_D (by show 11 + 3 ≤ 100000; decide) (by rw [noL_app, noL_app, nw1, nw2, nw3]; rfl) (nw4 n w))) rfl
theorem x6_ok (s : D) (n : Int) (w : List Int) : X6 (fE s n w (w1 n w ++ w2 ++ w3 n w ++ w4 n w)) = some (.nx (fE s n w (w1 n w ++ w2 ++ w3 n w ++ w4 n w ++ w5 n))) :=
  set_to (op_ok rfl (lst_ok (ds := w5 n) rfl rfl) rfl (gAdd_D (by show 14 + 4 ≤ 100000; decide) (by rw [noL_app, noL_app, noL_app, nw1, nw2, nw3, nw4]; rfl) (nw5 n))) rfl
end
end G09

namespace G09
open PySem PySem.Spec PyProof.Rows L2 Vl Pm
abbrev wl (n : Int) (w : List Int) : List D := w1 n w ++ w2 ++ w3 n w ++ w4 n w ++ w5 n
theorem bad_if {n : Int} {ds : List D} (h1 : 1 ≤ n) (h2 : n ≤ 12) (hk : ds.all okK = true) (hl : ds.length ≤ 1000) (hb : ds.any (badD n) = true) : F_braid_fault [.tup [.int n, .tup ds]] = some (.str "letters", []) := by
  rw [bf_ok h1 h2 hk hl, if_pos hb]
theorem no_bad {n : Nat} {w : List Int} (h1 : 1 ≤ n) (h2 : n ≤ 12) (hl : w.length ≤ 1000) (hw : Wd n w) : F_braid_fault [brD (n : Nat) w] = some (.non, []) := by
  have e : (w.map D.int).any (badD (n : Nat)) = false := by
    rw [Bool.eq_false_iff]
    intro h
    rw [List.any_eq_true] at h
    obtain ⟨d, hd, hb⟩ := h
    obtain ⟨x, hx, rfl⟩ := List.mem_map.mp hd
    have := hw x hx
    have hb : (decide (x = 0) || decide ((n : Int) ≤ (x.natAbs : Nat))) = true := hb
    rw [Bool.or_eq_true, decide_eq_true_iff, decide_eq_true_iff] at hb
    omega
  unfold brD
  rw [bf_ok (by omega) (by omega) (kk_ints w) (by rw [List.length_map]; exact hl), if_neg (by rw [e]; simp)]
structure Fc (v : D) (due : Str) : Prop where
  f : F_braid_fault [v] = some (.str due, [])
  z : v.frz = v
  o : v.noOwn = true
  k : eqOk (.str due) = true
theorem kF : eqOk (.str "form") = true := by decide +kernel
theorem kS : eqOk (.str "strands") = true := by decide +kernel
theorem kL : eqOk (.str "letters") = true := by decide +kernel
theorem letters_fc {n : Int} {ds : List D} (h1 : 1 ≤ n) (h2 : n ≤ 12) (hk : ds.all okK = true) (hl : ds.length ≤ 1000) (hb : ds.any (badD n) = true) : Fc (.tup [.int n, .tup ds]) "letters" := by
  obtain ⟨z1, z2⟩ := frzL_k ds hk
  exact ⟨bad_if h1 h2 hk hl hb, fz2 rfl (congrArg D.tup z1), no2 rfl z2, kL⟩
theorem all_app (a b : List D) : (a ++ b).all okK = (a.all okK && b.all okK) := List.all_append
theorem any_app (n : Int) (a b : List D) : (a ++ b).any (badD n) = (a.any (badD n) || b.any (badD n)) := List.any_append
theorem fc_at {n : Nat} {w : List Int} (n1 : 2 ≤ n) (n2 : n ≤ 8) (hl : w.length ≤ 100) (r : Int) (r0 : 0 ≤ r) (r1 : r < 18) : ∃ v due, L2.atI (wl (n : Nat) w) r = some (.tup [v, .str due]) ∧ Fc v due := by
  have nn : badD (n : Nat) (.int (n : Nat)) = true := by
    show (decide ((n : Int) = 0) || decide ((n : Int) ≤ ((n : Int).natAbs : Nat))) = true
    rw [decide_eq_true (show (n : Int) ≤ ((n : Int).natAbs : Nat) by omega), Bool.or_true]
  have nm : badD (n : Nat) (.int (0 - (n : Nat))) = true := by
    show (decide ((0 - n : Int) = 0) || decide ((n : Int) ≤ ((0 - n : Int).natAbs : Nat))) = true
    rw [decide_eq_true (show (n : Int) ≤ ((0 - n : Int).natAbs : Nat) by omega), Bool.or_true]
  have L1 : ∀ x : List D, x.length ≤ 10 → (w.map D.int ++ x).length ≤ 1000 := fun x hx => by rw [List.length_append, List.length_map]; omega
  rcases (show r = 0 ∨ r = 1 ∨ r = 2 ∨ r = 3 ∨ r = 4 ∨ r = 5 ∨ r = 6 ∨ r = 7 ∨ r = 8 ∨ r = 9 ∨ r = 10 ∨ r = 11 ∨ r = 12 ∨ r = 13 ∨ r = 14 ∨ r = 15 ∨ r = 16 ∨ r = 17 by omega) with rfl | rfl | rfl | rfl | rfl | rfl | rfl | rfl | rfl | rfl | rfl | rfl | rfl | rfl | rfl | rfl | rfl | rfl
  · exact ⟨_, _, rfl, row_false (row_no kb10 rfl) rfl rfl, rfl, rfl, kF⟩
  · exact ⟨_, _, rfl, row_false (row_len (show 1 ≠ 2 by decide)) rfl rfl, rfl, rfl, kF⟩
  · exact ⟨_, _, rfl, snd_form rfl rfl (frzL_ints w) (noOwnL_ints w), fz2 rfl (congrArg (D.lst false) (frzL_ints w)), no2 rfl (noOwnL_ints w), kF⟩
  · have z : D.frz (.tup [.int (n : Nat), .tup (w.map D.int), .int 1]) = .tup [.int (n : Nat), .tup (w.map D.int), .int 1] := congrArg D.tup (frzL3 rfl (frz_t w) rfl)
    have o : D.noOwn (.tup [.int (n : Nat), .tup (w.map D.int), .int 1]) = true := noL3 rfl (no_t w) rfl
    exact ⟨_, _, rfl, row_false (row_len (show 3 ≠ 2 by decide)) z o, z, o, kF⟩
  · exact ⟨_, _, rfl, row_false (row_no kb9 rfl) rfl rfl, rfl, rfl, kF⟩
  · exact ⟨_, _, rfl, strands_bad rfl rfl rfl rfl btw_0, rfl, rfl, kS⟩
  · exact ⟨_, _, rfl, strands_bad rfl rfl rfl rfl btw_13, rfl, rfl, kS⟩
  · exact ⟨_, _, rfl, strands_bad rfl rfl rfl rfl (btw_no (int_b true) rfl rfl), rfl, rfl, kS⟩
  · exact ⟨_, _, rfl, strands_bad rfl rfl rfl rfl (btw_no (int_s _) rfl rfl), rfl, rfl, kS⟩
  · exact ⟨_, _, rfl, letters_fc (by omega) (by omega) (by rw [all_app, kk_ints]; rfl) (L1 _ (show 1 ≤ 10 by decide)) (by rw [any_app, show [D.int (n : Nat)].any (badD (n : Nat)) = true by rw [List.any_cons, nn]; rfl, Bool.or_true])⟩
  · exact ⟨_, _, rfl, letters_fc (by omega) (by omega) (by rw [all_app, kk_ints]; rfl) (by rw [List.length_append, List.length_map]; show 1 + w.length ≤ _; omega) (by rw [any_app]; rfl)⟩
  · exact ⟨_, _, rfl, letters_fc (by omega) (by omega) (by rw [all_app, kk_ints]; rfl) (L1 _ (show 1 ≤ 10 by decide)) (by rw [any_app, show [D.bl true].any (badD (n : Nat)) = true from rfl, Bool.or_true])⟩
  · exact ⟨_, _, rfl, letters_fc (by omega) (by omega) rfl (show 1 ≤ 1000 by decide) (by rw [List.any_cons, nm]; rfl)⟩
  · exact ⟨_, _, rfl, letters_fc (by omega) (by omega) rfl (show 1 ≤ 1000 by decide) rfl⟩
  · exact ⟨_, _, rfl, strands_bad rfl rfl rfl rfl btw_0, rfl, rfl, kS⟩
  · exact ⟨_, _, rfl, letters_fc (n := 1) (by decide) (by decide) rfl (by decide) rfl⟩
  · exact ⟨_, _, rfl, letters_fc (by omega) (by omega) rfl (show 1 ≤ 1000 by decide) rfl⟩
  · exact ⟨_, _, rfl, row_false (row_no kb11 rfl) rfl rfl, rfl, rfl, kF⟩
theorem faults_ok {n : Nat} {w : List Int} (n1 : 2 ≤ n) (n2 : n ≤ 8) (hl : w.length ≤ 100) (hw : Wd n w) (s : D) (hs : IsSt s) : ∃ s', F__law_fault_holds [s, brD (n : Nat) w] = some (.bl true, [s']) := by
  obtain ⟨r, s1, e1, hs1, r0, r1⟩ := draw s 18 hs (by decide) (by decide)
  obtain ⟨v, due, hv, fc⟩ := fc_at n1 n2 hl r r0 r1
  refine ⟨s1, ?_⟩
  rw [fh_split]
  refine run_at1 (ρ0 := [some s, some (brD (n : Nat) w), none, none, none, none, none]) (ρ := [some s1, some (brD (n : Nat) w), some (.int (n : Nat)), some (.tup (w.map D.int)), some (.lst true (wl (n : Nat) w)), some v, some (.str due)]) rfl rfl ?_ rfl
  rw [seq_nx (ρ' := [some s, some (brD (n : Nat) w), some (.int (n : Nat)), some (.tup (w.map D.int)), none, none, none]) (asg_ok (d := brD (n : Nat) w) rfl (no_br _ _) (tp2_ok rfl rfl))]
  rw [seq_nx (x2_ok s n w hl), seq_nx (x3_ok s n w), seq_nx (x4_ok s n w hl), seq_nx (x5_ok s n w hl), seq_nx (x6_ok s n w)]
  have gl : gLen [.lst true (wl (n : Nat) w)] = some (.int 18) := rfl
  rw [seq_nx (ρ' := [some s1, some (brD (n : Nat) w), some (.int (n : Nat)), some (.tup (w.map D.int)), some (.lst true (wl (n : Nat) w)), some v, some (.str due)]) (asg_ok (ixl_ok rfl (callM_ok rfl (cons_ok (cl_ok (cons_ok rfl rfl rfl) gl) rfl rfl) rfl rfl e1 rfl) rfl hv) (no2 fc.o rfl) (tp2_ok rfl rfl))]
  have c1 : F_braid_fault [.tup [.int 1, .tup []]] = some (.non, []) := bf_ok (n := 1) (ds := []) (by decide) (by decide) rfl (by decide)
  refine ret_ok ((andv_t (op_ok (call_ok (cons_ok rfl rfl rfl) (frzL1 fc.z) (noL1 fc.o) fc.f) rfl rfl (gEq_same fc.k))).trans ((andv_t (op_ok (call_ok (cons_ok rfl rfl rfl) (frzL1 (frz_br _ _)) (noL1 (no_br _ _)) (no_bad (by omega) (by omega) (by omega) hw)) rfl rfl rfl)).trans ?_))
  exact op_ok (call_ok (ds := [.tup [.int 1, .tup []]]) (cons_ok rfl rfl rfl) rfl rfl c1) rfl rfl rfl
end G09

namespace G09
open PySem PySem.Spec PyProof.Rows L2 Vl
abbrev W1 : MS := (sSet 1 (fCall F__law_state (fCons [0] [] (fVar 0) fNil)))
abbrev W2 : MS := (sSet 2 (fCallM F__law_braid 1 (fCons [] [] (fC (.int 8)) (fCons [] [] (fC (.int 14)) fNil))))
abbrev W3 : MS := (sAsg (gTp 2 (gsCons (gNm 3) (gsCons (gNm 4) gsNil))) (fVar 2))
abbrev W4 : MS := (sSet 5 (fTup (fCons [] [1] (fAli 3) (fCons [] [] (chk (fOp [] [] gIxA (fCallM F__law_braid 1 (fCons [] [] (fC (.int 8)) (fCons [] [] (fC (.int 9)) fNil))) (fC (.int 1)))) fNil))))
abbrev W5 : MS := (sSet 5 (fTup (fCons [] [6, 6, 6] (fAli 3) (fCons [] [] (fCl gTuple (fCons [] [] (fComp [6] (iSeq (fOp [5] [] gIxA (fVar 5) (fC (.int 1)))) (gNm 6) (fB (fOp [] [] gLt (fCl gAbs (fCons [6] [] (fVar 6) fNil)) (fVar 3))) (fVal 6)) fNil)) fNil))))
abbrev W6 : MS := (sIf (fOr (fB (fOp [] [3] gNe (fCall F_joined (fCons [2] [] (fVar 2) (fCons [5] [] (fVar 5) fNil))) (fTup (fCons [] [] (fAli 3) (fCons [] [] (fOp [4] [] gAdd (fVar 4) (fOp [5] [] gIxA (fVar 5) (fC (.int 1)))) fNil))))) (fB (fOp [] [3, 7, 7, 7] gNe (fCall F_undone (fCons [2] [] (fVar 2) fNil)) (fTup (fCons [] [7, 7, 7] (fAli 3) (fCons [] [] (fCl gTuple (fCons [] [] (fComp [7] (iSeq (fRevS (fVar 4))) (gNm 7) fYes (fOp [] [] gSub (fC (.int 0)) (fVar 7))) fNil)) fNil)))))) (sRet (fC (.bl false))) sNil)
abbrev W7 : MS := (sIf (fOr (fB (fOp [] [3, 7, 7, 7] gNe (fCall F_mirrored (fCons [2] [] (fVar 2) fNil)) (fTup (fCons [] [7, 7, 7] (fAli 3) (fCons [] [] (fCl gTuple (fCons [] [] (fComp [7] (iSeq (fVar 4)) (gNm 7) fYes (fOp [] [] gSub (fC (.int 0)) (fVar 7))) fNil)) fNil))))) (fB (fOp [] [3] gNe (fCall F_from_below (fCons [2] [] (fVar 2) fNil)) (fTup (fCons [] [] (fAli 3) (fCons [] [] (fRevS (fVar 4)) fNil)))))) (sRet (fC (.bl false))) sNil)
abbrev W8 : MS := (sIf (fOr (fB (fOp [] [3, 7, 7, 7] gNe (fCall F_turned (fCons [2] [] (fVar 2) fNil)) (fTup (fCons [] [7, 7, 7] (fAli 3) (fCons [] [] (fCl gTuple (fCons [] [] (fComp [7] (iSeq (fVar 4)) (gNm 7) fYes (fOp [] [] gMul (fCall F__law_sign (fCons [7] [] (fVar 7) fNil)) (fOp [3] [] gSub (fVar 3) (fCl gAbs (fCons [7] [] (fVar 7) fNil))))) fNil)) fNil))))) (fB (fOp [] [3] gNe (fCall F_trivial (fCons [3] [] (fVar 3) fNil)) (fTup (fCons [] [] (fAli 3) (fCons [] [] (fTup fNil) fNil)))))) (sRet (fC (.bl false))) sNil)
abbrev W9 : MS := (sSet 8 (fOp [] [] gSub (fCallM F__law_draw 1 (fCons [] [] (fC (.int 7)) fNil)) (fC (.int 3))))
abbrev W10 : MS := (sSet 9 (fOp [4] [] gMul (fVar 4) (fCl gAbs (fCons [8] [] (fVar 8) fNil))))
abbrev W11 : MS := (sIf (fB (fOp [8] [] gLt (fVar 8) (fC (.int 0)))) (sSet 9 (fCl gTuple (fCons [] [] (fComp [7] (iSeq (fRevS (fVar 9))) (gNm 7) fYes (fOp [] [] gSub (fC (.int 0)) (fVar 7))) fNil))) sNil)
abbrev W12 : MS := (sIf (fOr (fB (fOp [] [3, 9] gNe (fCall F_repeated (fCons [2] [] (fVar 2) (fCons [8] [] (fVar 8) fNil))) (fTup (fCons [] [9] (fAli 3) (fCons [] [] (fAli 9) fNil))))) (fB (fOp [] [3] gNe (fCall F_freely_reduced (fCons [2] [] (fVar 2) fNil)) (fTup (fCons [] [] (fAli 3) (fCons [] [] (fCall F__law_reduced (fCons [4] [] (fVar 4) fNil)) fNil)))))) (sRet (fC (.bl false))) sNil)
abbrev W13 : MS := (sSet 10 (fCall F__law_order_of (fCons [2] [] (fVar 2) fNil)))
abbrev W14 : MS := (sSet 11 (fCall F__law_parts (fCons [10] [] (fVar 10) fNil)))
abbrev W15 : MS := (sIf (fOr (fB (fOp [] [7, 7, 7] gNe (fCall F_exponent_sum (fCons [2] [] (fVar 2) fNil)) (fCl gSum (fCons [] [] (fComp [7] (iSeq (fVar 4)) (gNm 7) fYes (fCall F__law_sign (fCons [7] [] (fVar 7) fNil))) fNil)))) (fOr (fB (fOp [] [] gNe (fCall F_order_of (fCons [2] [] (fVar 2) fNil)) (fVar 10))) (fB (fOp [] [] gNe (fCall F_component_count (fCons [2] [] (fVar 2) fNil)) (fCl gLen (fCons [11] [] (fVar 11) fNil)))))) (sRet (fC (.bl false))) sNil)
abbrev W16 : MS := (sIf (fOr (fB (fOp [] [] (gCmpT true) (fCall F_crossing_table (fCons [2] [] (fVar 2) fNil)) (fCall F__law_table (fCons [2] [] (fVar 2) fNil)))) (fB (fOp [] [] gNe (fCall F_braid_linking_rows (fCons [2] [] (fVar 2) fNil)) (fCall F__law_linking (fCons [2] [] (fVar 2) fNil))))) (sRet (fC (.bl false))) sNil)
abbrev W17 : MS := (sIf (fNot (fTr (fCall F__law_truth (fCons [] [12, 12, 12] (fCall F_is_pure (fCons [2] [] (fVar 2) fNil)) (fCons [] [] (fOp [10] [12, 12, 12] gEq (fVar 10) (fCl gTuple (fCons [] [] (fComp [12] (iRg1 (fCons [3] [] (fVar 3) fNil)) (gNm 12) fYes (fOp [12] [] gAdd (fVar 12) (fC (.int 1)))) fNil))) fNil))))) (sRet (fC (.bl false))) sNil)
abbrev W18 : MS := (sSet 13 (fCallM F__law_draw 1 (fCons [] [] (fC (.int 4)) fNil)))
abbrev W19 : MS := (sSet 14 (fCl gTuple (fCons [] [] (fComp [7] (iSeq (fVar 4)) (gNm 7) fYes (fOp [7] [] gAdd (fVar 7) (fOp [13] [] gMul (fVar 13) (fCall F__law_sign (fCons [7] [] (fVar 7) fNil))))) fNil)))
abbrev W20 : MS := (sIf (fOr (fB (fOp [] [4] gNe (fCall F_widened (fCons [2] [] (fVar 2) (fCons [] [] (fOp [3] [] gAdd (fVar 3) (fVar 13)) fNil))) (fTup (fCons [] [4] (fOp [3] [] gAdd (fVar 3) (fVar 13)) (fCons [] [] (fAli 4) fNil))))) (fB (fOp [] [14] gNe (fCall F_shifted (fCons [2] [] (fVar 2) (fCons [13] [] (fVar 13) fNil))) (fTup (fCons [] [14] (fOp [3] [] gAdd (fVar 3) (fVar 13)) (fCons [] [] (fAli 14) fNil)))))) (sRet (fC (.bl false))) sNil)
abbrev W21 : MS := (sIf (fB (fOp [] [7, 7, 7] gNe (fCall F_beside (fCons [5] [] (fVar 5) (fCons [2] [] (fVar 2) fNil))) (fTup (fCons [] [7, 7, 7] (fOp [] [] gMul (fC (.int 2)) (fVar 3)) (fCons [] [] (fOp [5] [7, 7, 7] gAdd (fOp [5] [] gIxA (fVar 5) (fC (.int 1))) (fCl gTuple (fCons [] [] (fComp [7] (iSeq (fVar 4)) (gNm 7) fYes (fOp [7] [] gAdd (fVar 7) (fOp [3] [] gMul (fVar 3) (fCall F__law_sign (fCons [7] [] (fVar 7) fNil))))) fNil))) fNil))))) (sRet (fC (.bl false))) sNil)
abbrev W22 : MS := (sSet 15 (fLst fNil))
abbrev W23 : MS := (sFor (iRg3 (fCons [] [] (fOp [3] [] gSub (fVar 3) (fC (.int 1))) (fCons [] [] (fC (.int 0)) (fCons [] [] (fUn gNeg (fC (.int 1))) fNil)))) (gNm 16) (sSet 15 (fOp [15] [12, 12, 12] gAdd (fVar 15) (fComp [12] (iRg1 (fCons [16] [] (fVar 16) fNil)) (gNm 12) fYes (fOp [12] [] gAdd (fVar 12) (fC (.int 1)))))))
abbrev W24 : MS := (sSet 17 (fCl gTuple (fCons [] [] (fComp [12] (iRg1 (fCons [] [] (fOp [3] [] gSub (fVar 3) (fC (.int 1))) fNil)) (gNm 12) fYes (fOp [12] [] gAdd (fVar 12) (fC (.int 1)))) fNil)))
abbrev W25 : MS := (sIf (fOr (fB (fOp [] [3] gNe (fCall F_half_twist (fCons [3] [] (fVar 3) fNil)) (fTup (fCons [] [] (fAli 3) (fCons [] [] (fCl gTuple (fCons [15] [] (fVar 15) fNil)) fNil))))) (fB (fOp [] [3] gNe (fCall F_full_twist (fCons [3] [] (fVar 3) fNil)) (fTup (fCons [] [] (fAli 3) (fCons [] [] (fOp [17] [] gMul (fVar 17) (fVar 3)) fNil)))))) (sRet (fC (.bl false))) sNil)
abbrev W26 : MS := (sIf (fOr (fB (fOp [] [3] gNe (fCall F_torus_braid (fCons [3] [] (fVar 3) (fCons [] [] (fCl gAbs (fCons [8] [] (fVar 8) fNil)) fNil))) (fTup (fCons [] [] (fAli 3) (fCons [] [] (fOp [17] [] gMul (fVar 17) (fCl gAbs (fCons [8] [] (fVar 8) fNil))) fNil))))) (fB (fOp [] [3, 7, 7, 7] gNe (fCall F_torus_braid (fCons [3] [] (fVar 3) (fCons [] [] (fUn gNeg (fC (.int 1))) fNil))) (fTup (fCons [] [7, 7, 7] (fAli 3) (fCons [] [] (fCl gTuple (fCons [] [] (fComp [7] (iSeq (fRevS (fVar 17))) (gNm 7) fYes (fOp [] [] gSub (fC (.int 0)) (fVar 7))) fNil)) fNil)))))) (sRet (fC (.bl false))) sNil)
abbrev W27 : MS := (sSet 18 (fLst fNil))
abbrev W28 : MS := (sFor (iSeq (fVar 4)) (gNm 7) (sSet 18 (fOp [18] [19, 19, 19] gAdd (fVar 18) (fComp [19] (iSeq (fLst (fCons [] [] (fOp [] [] gMul (fC (.int 2)) (fCl gAbs (fCons [7] [] (fVar 7) fNil))) (fCons [] [] (fOp [] [] gSub (fOp [] [] gMul (fC (.int 2)) (fCl gAbs (fCons [7] [] (fVar 7) fNil))) (fC (.int 1))) (fCons [] [] (fOp [] [] gAdd (fOp [] [] gMul (fC (.int 2)) (fCl gAbs (fCons [7] [] (fVar 7) fNil))) (fC (.int 1))) (fCons [] [] (fOp [] [] gMul (fC (.int 2)) (fCl gAbs (fCons [7] [] (fVar 7) fNil))) fNil)))))) (gNm 19) fYes (fOp [] [] gMul (fCall F__law_sign (fCons [7] [] (fVar 7) fNil)) (fVar 19))))))
abbrev W29 : MS := (sRet (fAndV (fOp [] [] gEq (fCall F_doubled (fCons [2] [] (fVar 2) fNil)) (fTup (fCons [] [] (fOp [] [] gMul (fC (.int 2)) (fVar 3)) (fCons [] [] (fCl gTuple (fCons [18] [] (fVar 18) fNil)) fNil)))) (fCallM F__law_fault_holds 1 (fCons [2] [] (fVar 2) fNil))))
theorem law_split : F_law = runF 1 0 20 (sSeq W1 (sSeq W2 (sSeq W3 (sSeq W4 (sSeq W5 (sSeq W6 (sSeq W7 (sSeq W8 (sSeq W9 (sSeq W10 (sSeq W11 (sSeq W12 (sSeq W13 (sSeq W14 (sSeq W15 (sSeq W16 (sSeq W17 (sSeq W18 (sSeq W19 (sSeq W20 (sSeq W21 (sSeq W22 (sSeq W23 (sSeq W24 (sSeq W25 (sSeq W26 (sSeq W27 (sSeq W28 W29)))))))))))))))))))))))))))) := rfl
theorem seq_nx {a b : MS} {ρ ρ' : Vl.Env} (h : a ρ = some (.nx ρ')) : sSeq a b ρ = b ρ' := by
  show (a ρ).bind _ = _
  rw [h]
  rfl
end G09

namespace G09
open PySem PySem.Spec PyProof.Rows L2 Vl Pm
theorem ne_br {T : List Nat} {A B : M D} {ρ : Vl.Env} {n m : Int} {l k : List Int} (hA : A ρ = some (brD n l, ρ)) (hB : B ρ = some (brD m k, ρ)) (hn : n = m) (hl : l = k) : fB (fOp [] T gNe A B) ρ = some (false, ρ) := by
  subst hn hl
  exact b_ok (op_ok hA hB rfl (gNe_same (eqOk_br n l)))
theorem chk2 {c1 c2 : M Bool} {t : MS} {ρ : Vl.Env} (h1 : c1 ρ = some (false, ρ)) (h2 : c2 ρ = some (false, ρ)) : sIf (fOr c1 c2) t sNil ρ = some (.nx ρ) := (if_f ((or_f h1).trans h2)).trans rfl
theorem chk1 {c1 : M Bool} {t : MS} {ρ : Vl.Env} (h1 : c1 ρ = some (false, ρ)) : sIf c1 t sNil ρ = some (.nx ρ) := (if_f h1).trans rfl
theorem gRev_t (l : List Int) : gRevS (.tup (l.map D.int)) = some (.tup (l.reverse.map D.int)) := by
  show (if D.noOwnL (l.map D.int) = true then some (D.tup (l.map D.int).reverse) else none) = _
  rw [noOwnL_ints, if_pos rfl, List.map_reverse]
theorem callB {F : FD} {ρ : Vl.Env} {n : Int} {l : List Int} {i : Nat} {r : D} (h : Env.at ρ i = some (brD n l)) (hF : F [brD n l] = some (r, [])) : fCall F (fCons [i] [] (fVar i) fNil) ρ = some (r, ρ) :=
  call_ok (cons_ok (var_ok h) rfl (safe_r1 _ _)) (frzL1 (frz_br n l)) (noL1 (no_br n l)) hF
theorem neg0 (l : List Int) : (l.map fun x => 0 - x) = l.map fun x => -x := List.map_congr_left fun x _ => Int.zero_sub x
theorem row_gEq (l m : List Nat) : gEq (.tup (nsD l)) (.tup (nsD m)) = some (.bl (decide (l = m))) := by
  unfold Vl.gEq
  rw [(row_t l).ok, (row_t m).ok, (row_t l).eq (row_t m), if_pos (by rfl)]
  congr 2
  rw [decide_eq_decide, ofNat_inj]
theorem pure_ok {n : Nat} {w : List Int} (hn : n ≤ 1000) (hw : Wd n w) : F_is_pure [brD (n : Nat) w] = some (.bl (decide (ord n w = List.range' 1 n)), []) :=
  run_at (ρ0 := [some (brD (n : Nat) w)]) (ρ := [some (brD (n : Nat) w)]) rfl rfl (ret_ok (op_ok (callB rfl (order_ok hn hw)) (call_ok (cons_ok (br_fst rfl) rfl rfl) rfl rfl (straight_ok n hn)) rfl (row_gEq _ _)))
theorem upto_ok {n : Nat} {ρ : Vl.Env} {i : Nat} {fr : M (List D)} {j : Int} (h : fr ρ = some ([.int j], ρ)) (e : j = (n : Nat)) (hn : n ≤ 1000) (ho : ownOk ρ [i] = true) (hi : i < ρ.length) : fComp [i] (iRg1 fr) (gNm i) fYes (fOp [i] [] gAdd (fVar i) (fC (.int 1))) ρ = some (.lst true (nsD (List.range' 1 n)), ρ) := by
  have at_i : ∀ d : D, Env.at (ρ.set i (some d)) i = some d := fun d => by unfold Env.at; rw [List.getElem?_set_self hi]
  have := comp_all (i := i) (ρ0 := ρ) (ρ1 := ρ) (fi := iRg1 fr) (fe := (fOp [i] [] gAdd (fVar i) (fC (.int 1)))) (l := List.range n) (fun k => .int ((k + 1 : Nat) : Int)) (iRg1_ns n h e (by omega)) ho (fun k _ => op_ok (var_ok (at_i _)) rfl (safe_r1 _ _) (gAdd_i _ _)) (by rw [List.length_range]; omega)
  rw [this, plus1]
abbrev vE (z s b n w : D) (x5 x8 x9 x10 x11 x13 x14 x15 x16 x17 x18 : Option D) : Vl.Env := [some z, some s, some b, some n, some w, x5, none, none, x8, x9, x10, x11, none, x13, x14, x15, x16, x17, x18, none]
abbrev zt (l : List Int) : D := .tup (l.map D.int)
section
variable (z s : D) {n : Nat} {a b : List Int} (x5 x8 x9 x10 x11 x13 x14 x15 x16 x17 x18 : Option D) (n1 : 2 ≤ n) (n2 : n ≤ 8) (al : a.length ≤ 14) (hw : Wd n a)
theorem w5_ok (bl : b.length ≤ 9) : W5 (vE z s (brD (n : Nat) a) (.int (n : Nat)) (zt a) (some (brD (n : Nat) b)) x8 x9 x10 x11 x13 x14 x15 x16 x17 x18) = some (.nx (vE z s (brD (n : Nat) a) (.int (n : Nat)) (zt a) (some (brD (n : Nat) (b.filter fun x => decide ((x.natAbs : Int) < (n : Nat))))) x8 x9 x10 x11 x13 x14 x15 x16 x17 x18)) := by
  have c := fComp_pure (i := 6) (ρ0 := vE z s (brD (n : Nat) a) (.int (n : Nat)) (zt a) (some (brD (n : Nat) b)) x8 x9 x10 x11 x13 x14 x15 x16 x17 x18) (ρ1 := vE z s (brD (n : Nat) a) (.int (n : Nat)) (zt a) (some (brD (n : Nat) b)) x8 x9 x10 x11 x13 x14 x15 x16 x17 x18) (fi := (iSeq (fOp [5] [] gIxA (fVar 5) (fC (.int 1))))) (ft := (fB (fOp [] [] gLt (fCl gAbs (fCons [6] [] (fVar 6) fNil)) (fVar 3)))) (fe := fVal 6) (items := b.map D.int) (fun d => match d with | .int x => decide ((x.natAbs : Int) < (n : Nat)) | _ => false) id (br_items (i := 5) (n := (n : Nat)) rfl) rfl (fun d hd => by
    obtain ⟨x, _, rfl⟩ := List.mem_map.mp hd
    exact b_ok (op_ok (abs1 rfl) rfl rfl (gLt_i _ _))) (fun d hd _ => by
    obtain ⟨x, _, rfl⟩ := List.mem_map.mp hd
    rfl) (by rw [List.length_map]; omega)
  rw [List.map_id, List.filter_map] at c
  exact set_to (pr_ok (ali_ok rfl rfl) (cl_ok (cons_ok c rfl rfl) (gTuple_z _ _))) rfl
include n1 n2 al hw
theorem w6_ok (bl : b.length ≤ 9) : W6 (vE z s (brD (n : Nat) a) (.int (n : Nat)) (zt a) (some (brD (n : Nat) b)) x8 x9 x10 x11 x13 x14 x15 x16 x17 x18) = some (.nx (vE z s (brD (n : Nat) a) (.int (n : Nat)) (zt a) (some (brD (n : Nat) b)) x8 x9 x10 x11 x13 x14 x15 x16 x17 x18)) :=
  chk2 (ne_br (call_ok (ds := [brD (n : Nat) a, brD (n : Nat) b]) (cons_ok rfl (cons_ok rfl rfl rfl) rfl) (frzL2 (frz_br _ _) (frz_br _ _)) (noL2 (no_br _ _) (no_br _ _)) (joined_ok (by omega))) (pr_ok (ali_ok rfl rfl) (op_ok rfl (br_snd rfl) rfl (gAdd_t (by omega)))) rfl rfl)
    (ne_br (callB rfl (undone_ok (by omega))) (pr_ok (ali_ok rfl rfl) (comp_t (l := a.reverse) (fun x => 0 - x) (seq_it (revS_ok rfl (gRev_t a)) (items_t _)) rfl (fun x _ => op_ok rfl rfl rfl (gSub_i _ _)) (by rw [List.length_reverse]; omega) rfl)) rfl (neg0 _).symm)
theorem w7_ok : W7 (vE z s (brD (n : Nat) a) (.int (n : Nat)) (zt a) x5 x8 x9 x10 x11 x13 x14 x15 x16 x17 x18) = some (.nx (vE z s (brD (n : Nat) a) (.int (n : Nat)) (zt a) x5 x8 x9 x10 x11 x13 x14 x15 x16 x17 x18)) :=
  chk2 (ne_br (callB rfl (mirrored_ok (by omega))) (pr_ok (ali_ok rfl rfl) (comp_t (l := a) (fun x => 0 - x) (seq_it rfl (items_t _)) rfl (fun x _ => op_ok rfl rfl rfl (gSub_i _ _)) (by omega) rfl)) rfl (neg0 _).symm)
    (ne_br (callB rfl from_below_ok) (pr_ok (ali_ok rfl rfl) (revS_ok rfl (gRev_t a))) rfl rfl)
theorem lsg {ρ : Vl.Env} {i : Nat} {x : Int} (h : Env.at ρ i = some (.int x)) : fCall F__law_sign (fCons [i] [] (fVar i) fNil) ρ = some (.int (sg x), ρ) := call1 h (lsign_ok x)
theorem w8_ok : W8 (vE z s (brD (n : Nat) a) (.int (n : Nat)) (zt a) x5 x8 x9 x10 x11 x13 x14 x15 x16 x17 x18) = some (.nx (vE z s (brD (n : Nat) a) (.int (n : Nat)) (zt a) x5 x8 x9 x10 x11 x13 x14 x15 x16 x17 x18)) :=
  chk2 (ne_br (callB rfl (turned_ok (by omega) fun x hx => (hw x hx).1)) (pr_ok (ali_ok rfl rfl) (comp_t (l := a) (fun x => sg x * ((n : Nat) - (x.natAbs : Nat))) (seq_it rfl (items_t _)) rfl (fun x _ => op_ok (call1 rfl (lsign_ok x)) (op_ok rfl (abs1 rfl) rfl (gSub_i _ _)) rfl (gMul_i (cMul_l (by unfold sg; split <;> decide)))) (by omega) rfl)) rfl rfl)
    (ne_br (l := []) (call1 rfl (trivial_ok (n : Nat))) (pr_ok (ali_ok rfl rfl) (tup_ok (ds := []) rfl rfl)) rfl rfl)
theorem w12_ok {c : Int} {du : List Int} (hr : F_repeated [brD (n : Nat) a, .int c] = some (brD (n : Nat) du, [])) : W12 (vE z s (brD (n : Nat) a) (.int (n : Nat)) (zt a) x5 (some (.int c)) (some (zt du)) x10 x11 x13 x14 x15 x16 x17 x18) = some (.nx (vE z s (brD (n : Nat) a) (.int (n : Nat)) (zt a) x5 (some (.int c)) (some (zt du)) x10 x11 x13 x14 x15 x16 x17 x18)) :=
  chk2 (ne_br (call_ok (ds := [brD (n : Nat) a, .int c]) (cons_ok rfl (cons_ok rfl rfl rfl) rfl) (frzL2 (frz_br _ _) rfl) (noL2 (no_br _ _) rfl) hr) (pr_ok (ali_ok rfl rfl) (ali_ok (d := zt du) rfl (no_t _))) rfl rfl)
    (ne_br (callB rfl (reduced_ok (by omega))) (pr_ok (ali_ok rfl rfl) (call_ok (ds := [zt a]) (cons_ok rfl rfl rfl) (frzL1 (frz_t _)) (noL1 (no_t _)) (lreduced_ok (by omega)))) rfl rfl)
theorem w15_ok : W15 (vE z s (brD (n : Nat) a) (.int (n : Nat)) (zt a) x5 x8 x9 (some (.tup (nsD (ord n a)))) (some (.lst true (flD (pts n (ord n a) n)))) x13 x14 x15 x16 x17 x18) = some (.nx (vE z s (brD (n : Nat) a) (.int (n : Nat)) (zt a) x5 x8 x9 (some (.tup (nsD (ord n a)))) (some (.lst true (flD (pts n (ord n a) n)))) x13 x14 x15 x16 x17 x18)) := by
  have e : ints? ((a.map sg).map D.int) = some (a.map sg) := by
    generalize a.map sg = l
    induction l with
    | nil => rfl
    | cons x r ih =>
      show (ints? (r.map D.int)).bind _ = _
      rw [ih]
      rfl
  have gs : gSum [.lst true ((a.map sg).map D.int)] = some (.int (a.map sg).sum) := by
    show (ints? _).bind _ = _
    rw [e]
    rfl
  have gl : gLen [.lst true (flD (pts n (ord n a) n))] = some (.int ((pts n (ord n a) n).length : Nat)) := by rw [gLen_l, flD_len]
  refine chk2 (b_ok (op_ok (callB rfl (exponent_ok (by omega) fun x hx => (hw x hx).1)) (cl_ok (cons_ok (comp_z (l := a) sg (seq_it rfl (items_t _)) rfl (fun x _ => call1 rfl (lsign_ok x)) (by omega)) rfl rfl) gs) rfl ((gNe_i _ _).trans (by rw [decide_eq_true rfl]; rfl)))) ((or_f (b_ok (op_ok (callB rfl (order_ok (by omega) hw)) rfl rfl (ne_same (row_t _) (row_t _))))).trans (b_ok (op_ok (callB rfl (ccount_ok (by omega) hw)) (cl_ok (cons_ok rfl rfl rfl) gl) rfl ((gNe_i _ _).trans (by rw [decide_eq_true rfl]; rfl)))))
theorem w16_ok : W16 (vE z s (brD (n : Nat) a) (.int (n : Nat)) (zt a) x5 x8 x9 x10 x11 x13 x14 x15 x16 x17 x18) = some (.nx (vE z s (brD (n : Nat) a) (.int (n : Nat)) (zt a) x5 x8 x9 x10 x11 x13 x14 x15 x16 x17 x18)) :=
  chk2 (b_ok (op_ok (callB rfl (ctable_ok (by omega) hw (by omega))) (callB rfl (ltable_ok (by omega) hw (by omega))) rfl (cmp_t (tab_ok hw).nd)))
    (b_ok (op_ok (callB rfl (linking_ok (by omega) hw (by omega))) (callB rfl (llinking_ok (by omega) hw (by omega))) rfl (gNe_same (eqOk_lk _ _))))
theorem w17_ok : W17 (vE z s (brD (n : Nat) a) (.int (n : Nat)) (zt a) x5 x8 x9 (some (.tup (nsD (ord n a)))) x11 x13 x14 x15 x16 x17 x18) = some (.nx (vE z s (brD (n : Nat) a) (.int (n : Nat)) (zt a) x5 x8 x9 (some (.tup (nsD (ord n a)))) x11 x13 x14 x15 x16 x17 x18)) := by
  have u := upto_ok (n := n) (i := 12) (ρ := vE z s (brD (n : Nat) a) (.int (n : Nat)) (zt a) x5 x8 x9 (some (.tup (nsD (ord n a)))) x11 x13 x14 x15 x16 x17 x18) (fr := fCons [3] [] (fVar 3) fNil) (j := (n : Nat)) (cons_ok rfl rfl rfl) rfl (by omega) rfl (show 12 < 20 by decide)
  exact chk1 (not_ok (k := true) (tr_ok (call_ok (ds := [.bl (decide (ord n a = List.range' 1 n)), .bl (decide (ord n a = List.range' 1 n))]) (cons_ok (callB rfl (pure_ok (by omega) hw)) (cons_ok (op_ok rfl (cl_ok (cons_ok u rfl rfl) (gTuple_ns _ _)) rfl (row_gEq _ _)) rfl rfl) rfl) rfl rfl (law_truth_ok _)) rfl))
theorem w19_ok (m : Int) : W19 (vE z s (brD (n : Nat) a) (.int (n : Nat)) (zt a) x5 x8 x9 x10 x11 (some (.int m)) x14 x15 x16 x17 x18) = some (.nx (vE z s (brD (n : Nat) a) (.int (n : Nat)) (zt a) x5 x8 x9 x10 x11 (some (.int m)) (some (zt (a.map fun x => x + m * sg x))) x15 x16 x17 x18)) :=
  set_to (comp_t (l := a) (fun x => x + m * sg x) (seq_it rfl (items_t _)) rfl (fun x _ => op_ok rfl (op_ok rfl (call1 rfl (lsign_ok x)) rfl (gMul_i (cMul_r (by unfold sg; split <;> decide)))) rfl (gAdd_i _ _)) (by omega) rfl) rfl
theorem w20_ok (m : Int) : W20 (vE z s (brD (n : Nat) a) (.int (n : Nat)) (zt a) x5 x8 x9 x10 x11 (some (.int m)) (some (zt (a.map fun x => x + m * sg x))) x15 x16 x17 x18) = some (.nx (vE z s (brD (n : Nat) a) (.int (n : Nat)) (zt a) x5 x8 x9 x10 x11 (some (.int m)) (some (zt (a.map fun x => x + m * sg x))) x15 x16 x17 x18)) :=
  chk2 (ne_br (call_ok (ds := [brD (n : Nat) a, .int ((n : Nat) + m)]) (cons_ok rfl (cons_ok (op_ok rfl rfl rfl (gAdd_i _ _)) rfl rfl) rfl) (frzL2 (frz_br _ _) rfl) (noL2 (no_br _ _) rfl) widened_ok) (pr_ok (op_ok rfl rfl rfl (gAdd_i _ _)) (ali_ok (d := zt a) rfl (no_t _))) rfl rfl)
    (ne_br (call_ok (ds := [brD (n : Nat) a, .int m]) (cons_ok rfl (cons_ok rfl rfl rfl) rfl) (frzL2 (frz_br _ _) rfl) (noL2 (no_br _ _) rfl) (shifted_ok (by omega) fun x hx => (hw x hx).1)) (pr_ok (op_ok rfl rfl rfl (gAdd_i _ _)) (ali_ok (d := zt (a.map fun x => x + m * sg x)) rfl (no_t _))) rfl rfl)
theorem w21_ok (bl : b.length ≤ 9) : W21 (vE z s (brD (n : Nat) a) (.int (n : Nat)) (zt a) (some (brD (n : Nat) b)) x8 x9 x10 x11 x13 x14 x15 x16 x17 x18) = some (.nx (vE z s (brD (n : Nat) a) (.int (n : Nat)) (zt a) (some (brD (n : Nat) b)) x8 x9 x10 x11 x13 x14 x15 x16 x17 x18)) :=
  chk1 (ne_br (call_ok (ds := [brD (n : Nat) b, brD (n : Nat) a]) (cons_ok rfl (cons_ok rfl rfl rfl) rfl) (frzL2 (frz_br _ _) (frz_br _ _)) (noL2 (no_br _ _) (no_br _ _)) (beside_ok (by omega) fun x hx => (hw x hx).1)) (pr_ok (op_ok rfl rfl rfl (gMul_i (cMul_l (by decide)))) (op_ok (br_snd rfl) (comp_t (l := a) (fun x => x + (n : Nat) * sg x) (seq_it rfl (items_t _)) rfl (fun x _ => op_ok rfl (op_ok rfl (call1 rfl (lsign_ok x)) rfl (gMul_i (cMul_r (by unfold sg; split <;> decide)))) rfl (gAdd_i _ _)) (by omega) rfl) rfl (gAdd_t (by rw [List.length_map]; omega)))) (by omega) rfl)
end
end G09

namespace G09
open PySem PySem.Spec PyProof.Rows L2 Vl Pm
section
variable (z s : D) {n : Nat} {a b : List Int} (x5 x8 x9 x10 x11 x13 x14 x15 x16 x17 x18 : Option D) (n1 : 2 ≤ n) (n2 : n ≤ 8) (al : a.length ≤ 14) (hw : Wd n a)
include n1 n2 al hw
theorem w11_ok (c : Int) (c0 : -3 ≤ c) (c1 : c ≤ 3) : ∃ du, sSeq W10 W11 (vE z s (brD (n : Nat) a) (.int (n : Nat)) (zt a) x5 (some (.int c)) x9 x10 x11 x13 x14 x15 x16 x17 x18) = some (.nx (vE z s (brD (n : Nat) a) (.int (n : Nat)) (zt a) x5 (some (.int c)) (some (zt du)) x10 x11 x13 x14 x15 x16 x17 x18)) ∧ F_repeated [brD (n : Nat) a, .int c] = some (brD (n : Nat) du, []) := by
  have ab := abs1 (ρ := vE z s (brD (n : Nat) a) (.int (n : Nat)) (zt a) x5 (some (.int c)) x9 x10 x11 x13 x14 x15 x16 x17 x18) (i := 8) (x := c) rfl
  have s10 : W10 (vE z s (brD (n : Nat) a) (.int (n : Nat)) (zt a) x5 (some (.int c)) x9 x10 x11 x13 x14 x15 x16 x17 x18) = some (.nx (vE z s (brD (n : Nat) a) (.int (n : Nat)) (zt a) x5 (some (.int c)) (some (zt (repZ c.natAbs a))) x10 x11 x13 x14 x15 x16 x17 x18)) :=
    set_to (op_ok rfl ab rfl (gMul_t c.natAbs rfl (by omega) (by omega))) rfl
  have rl := repZ_len c.natAbs a
  have rl2 : c.natAbs * a.length ≤ 3 * 14 := Nat.mul_le_mul (by omega) al
  by_cases h : c < 0
  · refine ⟨(repZ c.natAbs a).reverse.map fun x => 0 - x, ?_, ?_⟩
    · rw [seq_nx s10]
      refine (if_t (b_ok (op_ok rfl rfl rfl ((gLt_i _ _).trans (by rw [decide_eq_true h]))))).trans ?_
      exact set_to (comp_t (l := (repZ c.natAbs a).reverse) (fun x => 0 - x) (seq_it (revS_ok rfl (gRev_t _)) (items_t _)) rfl (fun x _ => op_ok rfl rfl rfl (gSub_i _ _)) (by rw [List.length_reverse]; omega) rfl) rfl
    · rw [repeated_neg c.natAbs (by omega) h (by omega) (by omega), neg0, repZ_rev]
  · refine ⟨repZ c.natAbs a, ?_, repeated_pos c.natAbs (by omega) (by omega) (by omega)⟩
    rw [seq_nx s10]
    exact chk1 (b_ok (op_ok rfl rfl rfl ((gLt_i _ _).trans (by rw [decide_eq_false h]))))
theorem w23_ok : ∃ y, W23 (vE z s (brD (n : Nat) a) (.int (n : Nat)) (zt a) x5 x8 x9 x10 x11 x13 x14 (some (.lst true (nsD (hlf n 0)))) none x17 x18) = some (.nx (vE z s (brD (n : Nat) a) (.int (n : Nat)) (zt a) x5 x8 x9 x10 x11 x13 x14 (some (.lst true (nsD (hlf n (n - 1))))) y x17 x18)) := by
  obtain ⟨ρ', hf, y, rfl⟩ := for_inv (i := 16) (body := (sSet 15 (fOp [15] [12, 12, 12] gAdd (fVar 15) (fComp [12] (iRg1 (fCons [16] [] (fVar 16) fNil)) (gNm 12) fYes (fOp [12] [] gAdd (fVar 12) (fC (.int 1))))))) (fun k ρ => ∃ y, ρ = vE z s (brD (n : Nat) a) (.int (n : Nat)) (zt a) x5 x8 x9 x10 x11 x13 x14 (some (.lst true (nsD (hlf n k)))) y x17 x18) (rgDown ((n : Int) - 1) (n - 1)) 0 (vE z s (brD (n : Nat) a) (.int (n : Nat)) (zt a) x5 x8 x9 x10 x11 x13 x14 (some (.lst true (nsD (hlf n 0)))) none x17 x18) ⟨none, rfl⟩ fun j d ρ hd hI => by
    obtain ⟨y, rfl⟩ := hI
    obtain ⟨hj, rfl⟩ := down_get hd
    rw [Nat.zero_add]
    have hh := hlf_len n j
    have hh2 : j * n ≤ 100 * 100 := Nat.mul_le_mul (by omega) (by omega)
    have u := upto_ok (n := n - 1 - j) (i := 12) (ρ := vE z s (brD (n : Nat) a) (.int (n : Nat)) (zt a) x5 x8 x9 x10 x11 x13 x14 (some (.lst true (nsD (hlf n j)))) (some (.int ((n - 1 - j : Nat) : Int))) x17 x18) (fr := fCons [16] [] (fVar 16) fNil) (j := ((n - 1 - j : Nat) : Int)) (cons_ok rfl rfl rfl) rfl (by omega) rfl (show 12 < 20 by decide)
    have g : gAdd (.lst true (nsD (hlf n j))) (.lst true (nsD (List.range' 1 (n - 1 - j)))) = some (.lst true (nsD (hlf n (j + 1)))) := by
      rw [gAdd_D (by rw [nsD_len, nsD_len, List.length_range']; omega) (no_ns _) (no_ns _), hlf_succ, nsD_app]
    exact ⟨_, set_to (op_ok rfl u rfl g) rfl, _, rfl⟩
  rw [rgDown_length, Nat.zero_add] at hf
  exact ⟨y, (for_it (down_ok (n := n) rfl (by omega) (by omega) (cons_ok (op_ok rfl rfl rfl (gSub_i _ _)) (cons_ok rfl (cons_ok (un_ok rfl (gNeg_i _)) rfl rfl) rfl) rfl))).trans hf⟩
theorem w24_ok : W24 (vE z s (brD (n : Nat) a) (.int (n : Nat)) (zt a) x5 x8 x9 x10 x11 x13 x14 x15 x16 x17 x18) = some (.nx (vE z s (brD (n : Nat) a) (.int (n : Nat)) (zt a) x5 x8 x9 x10 x11 x13 x14 x15 x16 (some (zt (rowZ n))) x18)) := by
  have u := upto_ok (n := n - 1) (i := 12) (ρ := vE z s (brD (n : Nat) a) (.int (n : Nat)) (zt a) x5 x8 x9 x10 x11 x13 x14 x15 x16 x17 x18) (fr := (fCons [] [] (fOp [3] [] gSub (fVar 3) (fC (.int 1))) fNil)) (j := (n : Nat) - 1) (cons_ok (op_ok rfl rfl rfl (gSub_i _ _)) rfl rfl) (by omega) (by omega) rfl (show 12 < 20 by decide)
  exact set_to (cl_ok (cons_ok u rfl rfl) (gTuple_ns _ _)) rfl
theorem w25_ok : W25 (vE z s (brD (n : Nat) a) (.int (n : Nat)) (zt a) x5 x8 x9 x10 x11 x13 x14 (some (.lst true (nsD (hlf n (n - 1))))) x16 (some (zt (rowZ n))) x18) = some (.nx (vE z s (brD (n : Nat) a) (.int (n : Nat)) (zt a) x5 x8 x9 x10 x11 x13 x14 (some (.lst true (nsD (hlf n (n - 1))))) x16 (some (zt (rowZ n))) x18)) :=
  chk2 (ne_br (call1 rfl (half_ok (by omega) (by omega))) (pr_ok (ali_ok rfl rfl) (cl_ok (cons_ok rfl rfl rfl) (gTuple_ns _ _))) rfl rfl)
    (ne_br (call1 rfl (full_ok (by omega))) (pr_ok (ali_ok rfl rfl) (op_ok (d := zt (rowZ n)) rfl rfl rfl (gMul_t n rfl (by omega) (by rw [rowZ_len]; omega)))) rfl rfl)
theorem w26_ok (c : Int) (c0 : -3 ≤ c) (c1 : c ≤ 3) : W26 (vE z s (brD (n : Nat) a) (.int (n : Nat)) (zt a) x5 (some (.int c)) x9 x10 x11 x13 x14 x15 x16 (some (zt (rowZ n))) x18) = some (.nx (vE z s (brD (n : Nat) a) (.int (n : Nat)) (zt a) x5 (some (.int c)) x9 x10 x11 x13 x14 x15 x16 (some (zt (rowZ n))) x18)) := by
  have ab := abs1 (ρ := vE z s (brD (n : Nat) a) (.int (n : Nat)) (zt a) x5 (some (.int c)) x9 x10 x11 x13 x14 x15 x16 (some (zt (rowZ n))) x18) (i := 8) (x := c) rfl
  have r1 : repZ 1 ((rowZ n).reverse.map fun x => -x) = (rowZ n).reverse.map fun x => 0 - x := by
    rw [neg0]
    unfold repZ
    simp
  refine chk2 (ne_br (call_ok (ds := [.int (n : Nat), .int (c.natAbs : Nat)]) (cons_ok rfl (cons_ok ab rfl rfl) rfl) rfl rfl (torus_pos (by omega) c.natAbs rfl (by omega))) (pr_ok (ali_ok rfl rfl) (op_ok (d := zt (rowZ n)) rfl ab rfl (gMul_t c.natAbs rfl (by omega) (by rw [rowZ_len]; omega)))) rfl rfl) ?_
  exact ne_br (call_ok (ds := [.int (n : Nat), .int (-1)]) (cons_ok rfl (cons_ok (un_ok rfl (gNeg_i _)) rfl rfl) rfl) rfl rfl (torus_neg (by omega) 1 (by decide) (by decide) (by omega))) (pr_ok (ali_ok rfl rfl) (comp_t (l := (rowZ n).reverse) (fun x => 0 - x) (seq_it (revS_ok (d := zt (rowZ n)) rfl (gRev_t _)) (items_t _)) rfl (fun x _ => op_ok rfl rfl rfl (gSub_i _ _)) (by rw [List.length_reverse, rowZ_len]; omega) rfl)) rfl r1
abbrev vF (z s b n w : D) (x5 x7 x8 x9 x10 x11 x13 x14 x15 x16 x17 x18 : Option D) : Vl.Env := [some z, some s, some b, some n, some w, x5, none, x7, x8, x9, x10, x11, none, x13, x14, x15, x16, x17, x18, none]
theorem w28_ok : ∃ y, W28 (vE z s (brD (n : Nat) a) (.int (n : Nat)) (zt a) x5 x8 x9 x10 x11 x13 x14 x15 x16 x17 (some (.lst true []))) = some (.nx (vF z s (brD (n : Nat) a) (.int (n : Nat)) (zt a) x5 y x8 x9 x10 x11 x13 x14 x15 x16 x17 (some (.lst true ((dbls a).map D.int))))) := by
  obtain ⟨y, hy⟩ := sfor_pre (i := 7) (fi := iSeq (fVar 4)) (body := (sSet 18 (fOp [18] [19, 19, 19] gAdd (fVar 18) (fComp [19] (iSeq (fLst (fCons [] [] (fOp [] [] gMul (fC (.int 2)) (fCl gAbs (fCons [7] [] (fVar 7) fNil))) (fCons [] [] (fOp [] [] gSub (fOp [] [] gMul (fC (.int 2)) (fCl gAbs (fCons [7] [] (fVar 7) fNil))) (fC (.int 1))) (fCons [] [] (fOp [] [] gAdd (fOp [] [] gMul (fC (.int 2)) (fCl gAbs (fCons [7] [] (fVar 7) fNil))) (fC (.int 1))) (fCons [] [] (fOp [] [] gMul (fC (.int 2)) (fCl gAbs (fCons [7] [] (fVar 7) fNil))) fNil)))))) (gNm 19) fYes (fOp [] [] gMul (fCall F__law_sign (fCons [7] [] (fVar 7) fNil)) (fVar 19)))))) (ρ0 := vE z s (brD (n : Nat) a) (.int (n : Nat)) (zt a) x5 x8 x9 x10 x11 x13 x14 x15 x16 x17 (some (.lst true []))) a
    (fun p => vF z s (brD (n : Nat) a) (.int (n : Nat)) (zt a) x5 none x8 x9 x10 x11 x13 x14 x15 x16 x17 (some (.lst true ((dbls p).map D.int)))) none (seq_it (d := zt a) rfl (items_t a)) rfl fun p x q e => by
    have pl : p.length ≤ 14 := by rw [e] at al; simp at al; omega
    have dl := dbls_len p
    have dx : (dbl x).length = 4 := rfl
    rw [dbls_snoc]
    refine ⟨some (.int x), ?_⟩
    have m2 : fOp [] [] gMul (fC (.int 2)) (fCl gAbs (fCons [7] [] (fVar 7) fNil)) (vF z s (brD (n : Nat) a) (.int (n : Nat)) (zt a) x5 (some (.int x)) x8 x9 x10 x11 x13 x14 x15 x16 x17 (some (.lst true ((dbls p).map D.int)))) = some (.int (2 * (x.natAbs : Int)), vF z s (brD (n : Nat) a) (.int (n : Nat)) (zt a) x5 (some (.int x)) x8 x9 x10 x11 x13 x14 x15 x16 x17 (some (.lst true ((dbls p).map D.int)))) :=
      op_ok rfl (abs1 rfl) rfl (gMul_i (cMul_l (by decide)))
    have cz := comp_z (i := 19) (ρ0 := vF z s (brD (n : Nat) a) (.int (n : Nat)) (zt a) x5 (some (.int x)) x8 x9 x10 x11 x13 x14 x15 x16 x17 (some (.lst true ((dbls p).map D.int)))) (ρ1 := vF z s (brD (n : Nat) a) (.int (n : Nat)) (zt a) x5 (some (.int x)) x8 x9 x10 x11 x13 x14 x15 x16 x17 (some (.lst true ((dbls p).map D.int)))) (fi := (iSeq (fLst (fCons [] [] (fOp [] [] gMul (fC (.int 2)) (fCl gAbs (fCons [7] [] (fVar 7) fNil))) (fCons [] [] (fOp [] [] gSub (fOp [] [] gMul (fC (.int 2)) (fCl gAbs (fCons [7] [] (fVar 7) fNil))) (fC (.int 1))) (fCons [] [] (fOp [] [] gAdd (fOp [] [] gMul (fC (.int 2)) (fCl gAbs (fCons [7] [] (fVar 7) fNil))) (fC (.int 1))) (fCons [] [] (fOp [] [] gMul (fC (.int 2)) (fCl gAbs (fCons [7] [] (fVar 7) fNil))) fNil))))))) (fe := (fOp [] [] gMul (fCall F__law_sign (fCons [7] [] (fVar 7) fNil)) (fVar 19))) (l := [2 * (x.natAbs : Int), 2 * (x.natAbs : Int) - 1, 2 * (x.natAbs : Int) + 1, 2 * (x.natAbs : Int)]) (fun y => sg x * y)
      (seq_it (lst_ok (cons_ok m2 (cons_ok (op_ok m2 rfl rfl (gSub_i _ _)) (cons_ok (op_ok m2 rfl rfl (gAdd_i _ _)) (cons_ok m2 rfl rfl) rfl) rfl) rfl) rfl) (items_l true [2 * (x.natAbs : Int), 2 * (x.natAbs : Int) - 1, 2 * (x.natAbs : Int) + 1, 2 * (x.natAbs : Int)])) rfl (fun y _ => op_ok (call1 rfl (lsign_ok x)) rfl rfl (gMul_i (cMul_l (by unfold sg; split <;> decide)))) (by simp)
    exact set_to (op_ok rfl cz rfl (gAdd_l (a := dbls p) (b := dbl x) (by omega))) rfl
  exact ⟨y, hy⟩
theorem w29_ok (y : Option D) (hs : IsSt s) : ∃ ρ', W29 (vF z s (brD (n : Nat) a) (.int (n : Nat)) (zt a) x5 y x8 x9 x10 x11 x13 x14 x15 x16 x17 (some (.lst true ((dbls a).map D.int)))) = some (.rt (.bl true) ρ') := by
  obtain ⟨s', e⟩ := faults_ok n1 n2 (by omega) hw s hs
  refine ⟨vF z s' (brD (n : Nat) a) (.int (n : Nat)) (zt a) x5 y x8 x9 x10 x11 x13 x14 x15 x16 x17 (some (.lst true ((dbls a).map D.int))), ret_ok ((andv_t (op_ok (callB rfl (doubled_ok (fun x hx => (hw x hx).1) (by omega))) (pr_ok (op_ok rfl rfl rfl (gMul_i (cMul_l (by decide)))) (cl_ok (cons_ok rfl rfl rfl) (gTuple_z _ _))) rfl (gEq_same (eqOk_br _ _)))).trans ?_)⟩
  exact callM_ok rfl (cons_ok (d := brD (n : Nat) a) (ds := []) rfl rfl rfl) rfl (noL1 (no_br _ _)) e rfl
end
theorem law_true (ns : List Int) (hl : ns.length ≤ 63) (hb : ∀ z ∈ ns, Builtin.Int.intBits z ≤ 1048576) : F_law [.scr (ns.map .int)] = some (.bl true, []) := by
  obtain ⟨s0, e0, q0⟩ := state_ok ns hl
  obtain ⟨s1, n, a, e1, q1, n1, n2, al, hw⟩ := braid_ok 14 (by decide) (by decide) s0 q0
  obtain ⟨s2, m, b0, e2, q2, m1, m2, bl0, hw0⟩ := braid_ok 9 (by decide) (by decide) s1 q1
  have al : a.length ≤ 14 := by omega
  have bl0 : b0.length ≤ 9 := by omega
  obtain ⟨b, hb'⟩ : ∃ b, (b0.filter fun x => decide ((x.natAbs : Int) < (n : Nat))) = b := ⟨_, rfl⟩
  have bl : b.length ≤ 9 := by rw [← hb']; exact Nat.le_trans (List.length_filter_le _ _) bl0
  obtain ⟨c, s3, e3, q3, c0, c1⟩ := draw s2 7 q2 (by decide) (by decide)
  obtain ⟨t, s4, e4, q4, t0, t1⟩ := draw s3 4 q3 (by decide) (by decide)
  generalize hz : (D.scr (ns.map .int)) = z at e0 ⊢
  have st : fCall F__law_state (fCons [0] [] (fVar 0) fNil) [some z, none, none, none, none, none, none, none, none, none, none, none, none, none, none, none, none, none, none, none] = some (s0, [some z, none, none, none, none, none, none, none, none, none, none, none, none, none, none, none, none, none, none, none]) := by
    refine call_ok (ds := [z]) (cons_ok rfl rfl rfl) (frzL1 ?_) (noL1 ?_) e0
    · rw [← hz]; exact congrArg D.scr (frzL_ints ns)
    · rw [← hz]; exact noOwnL_ints ns
  obtain ⟨du, e11, hr⟩ := w11_ok z s3 (some (brD (n : Nat) b)) none none none none none none none none none n1 n2 al hw (c - 3) (by omega) (by omega)
  obtain ⟨y16, e23⟩ := w23_ok z s4 (some (brD (n : Nat) b)) (some (.int (c - 3))) (some (zt du)) (some (.tup (nsD (ord n a)))) (some (.lst true (flD (pts n (ord n a) n)))) (some (.int t)) (some (zt (a.map fun x => x + t * sg x))) none none n1 n2 al hw
  obtain ⟨y7, e28⟩ := w28_ok z s4 (some (brD (n : Nat) b)) (some (.int (c - 3))) (some (zt du)) (some (.tup (nsD (ord n a)))) (some (.lst true (flD (pts n (ord n a) n)))) (some (.int t)) (some (zt (a.map fun x => x + t * sg x))) (some (.lst true (nsD (hlf n (n - 1))))) y16 (some (zt (rowZ n))) n1 n2 al hw
  obtain ⟨ρ', e29⟩ := w29_ok z s4 (some (brD (n : Nat) b)) (some (.int (c - 3))) (some (zt du)) (some (.tup (nsD (ord n a)))) (some (.lst true (flD (pts n (ord n a) n)))) (some (.int t)) (some (zt (a.map fun x => x + t * sg x))) (some (.lst true (nsD (hlf n (n - 1))))) y16 (some (zt (rowZ n))) n1 n2 al hw y7 q4
  rw [law_split]
  refine run_at (ρ0 := [some z, none, none, none, none, none, none, none, none, none, none, none, none, none, none, none, none, none, none, none]) (ρ := ρ') rfl rfl ?_
  rw [seq_nx (ρ' := [some z, some s0, none, none, none, none, none, none, none, none, none, none, none, none, none, none, none, none, none, none]) (set_to st rfl)]
  rw [seq_nx (ρ' := [some z, some s1, some (brD (n : Nat) a), none, none, none, none, none, none, none, none, none, none, none, none, none, none, none, none, none]) (set_to (callM_ok rfl (cons_ok rfl (cons_ok rfl rfl rfl) rfl) rfl rfl e1 rfl) rfl)]
  rw [seq_nx (ρ' := vE z s1 (brD (n : Nat) a) (.int (n : Nat)) (zt a) none none none none none none none none none none none) (asg_ok (d := brD (n : Nat) a) rfl (no_br _ _) (tp2_ok rfl rfl))]
  rw [seq_nx (ρ' := vE z s2 (brD (n : Nat) a) (.int (n : Nat)) (zt a) (some (brD (n : Nat) b0)) none none none none none none none none none none) (set_to (tup_ok (cons_ok (ali_ok rfl rfl) (cons_ok (chk_ok (ixt_ok (callM_ok rfl (cons_ok rfl (cons_ok rfl rfl rfl) rfl) rfl rfl e2 rfl) rfl rfl rfl) (no_t b0)) rfl rfl) rfl) rfl) rfl)]
  have e5 := w5_ok z s2 (n := n) (a := a) (b := b0) none none none none none none none none none none bl0
  rw [hb'] at e5
  rw [seq_nx e5, seq_nx (w6_ok z s2 none none none none none none none none none none n1 n2 al hw bl), seq_nx (w7_ok z s2 _ none none none none none none none none none none n1 n2 al hw), seq_nx (w8_ok z s2 _ none none none none none none none none none none n1 n2 al hw)]
  rw [seq_nx (ρ' := vE z s3 (brD (n : Nat) a) (.int (n : Nat)) (zt a) (some (brD (n : Nat) b)) (some (.int (c - 3))) none none none none none none none none none) (set_to (op_ok (callM_ok rfl (cons_ok rfl rfl rfl) rfl rfl e3 rfl) rfl rfl (gSub_i _ _)) rfl)]
  obtain ⟨ρ10, k10, k11⟩ : ∃ ρ10, W10 (vE z s3 (brD (n : Nat) a) (.int (n : Nat)) (zt a) (some (brD (n : Nat) b)) (some (.int (c - 3))) none none none none none none none none none) = some (.nx ρ10) ∧ W11 ρ10 = some (.nx (vE z s3 (brD (n : Nat) a) (.int (n : Nat)) (zt a) (some (brD (n : Nat) b)) (some (.int (c - 3))) (some (zt du)) none none none none none none none none)) := by
    have e : sSeq W10 W11 _ = _ := e11
    unfold sSeq at e
    obtain ⟨r, h1, h2⟩ := Option.bind_eq_some_iff.mp e
    cases r with
    | nx ρ => exact ⟨ρ, h1, h2⟩
    | bk ρ => cases h2
    | ct ρ => cases h2
    | rt d ρ => cases h2
  rw [seq_nx k10, seq_nx k11, seq_nx (w12_ok z s3 _ none none none none none none none none n1 n2 al hw hr)]
  rw [seq_nx (ρ' := vE z s3 (brD (n : Nat) a) (.int (n : Nat)) (zt a) (some (brD (n : Nat) b)) (some (.int (c - 3))) (some (zt du)) (some (.tup (nsD (ord n a)))) none none none none none none none) (set_to (callB rfl (lorder_ok (by omega) hw)) rfl)]
  rw [seq_nx (ρ' := vE z s3 (brD (n : Nat) a) (.int (n : Nat)) (zt a) (some (brD (n : Nat) b)) (some (.int (c - 3))) (some (zt du)) (some (.tup (nsD (ord n a)))) (some (.lst true (flD (pts n (ord n a) n)))) none none none none none none) (set_to (call_ok (ds := [.tup (nsD (ord n a))]) (cons_ok rfl rfl rfl) (frzL1 (frz_tns _)) (noL1 (no_ns _)) (parts_ok (ord_isP hw) (by omega))) rfl)]
  rw [seq_nx (w15_ok z s3 _ _ _ none none none none none none n1 n2 al hw), seq_nx (w16_ok z s3 _ _ _ _ _ none none none none none none n1 n2 al hw), seq_nx (w17_ok z s3 _ _ _ _ none none none none none none n1 n2 al hw)]
  rw [seq_nx (ρ' := vE z s4 (brD (n : Nat) a) (.int (n : Nat)) (zt a) (some (brD (n : Nat) b)) (some (.int (c - 3))) (some (zt du)) (some (.tup (nsD (ord n a)))) (some (.lst true (flD (pts n (ord n a) n)))) (some (.int t)) none none none none none) (set_to (callM_ok rfl (cons_ok rfl rfl rfl) rfl rfl e4 rfl) rfl)]
  rw [seq_nx (w19_ok z s4 _ _ _ _ _ none none none none none n1 n2 al hw t), seq_nx (w20_ok z s4 _ _ _ _ _ none none none none n1 n2 al hw t), seq_nx (w21_ok z s4 _ _ _ _ _ _ none none none none n1 n2 al hw bl)]
  rw [seq_nx (ρ' := vE z s4 (brD (n : Nat) a) (.int (n : Nat)) (zt a) (some (brD (n : Nat) b)) (some (.int (c - 3))) (some (zt du)) (some (.tup (nsD (ord n a)))) (some (.lst true (flD (pts n (ord n a) n)))) (some (.int t)) (some (zt (a.map fun x => x + t * sg x))) (some (.lst true (nsD (hlf n 0)))) none none none) (set_to (lst_ok (ds := []) rfl rfl) rfl)]
  rw [seq_nx e23, seq_nx (w24_ok z s4 _ _ _ _ _ _ _ _ _ none none n1 n2 al hw), seq_nx (w25_ok z s4 _ _ _ _ _ _ _ _ none n1 n2 al hw), seq_nx (w26_ok z s4 _ _ _ _ _ _ _ _ none n1 n2 al hw (c - 3) (by omega) (by omega))]
  rw [seq_nx (ρ' := vE z s4 (brD (n : Nat) a) (.int (n : Nat)) (zt a) (some (brD (n : Nat) b)) (some (.int (c - 3))) (some (zt du)) (some (.tup (nsD (ord n a)))) (some (.lst true (flD (pts n (ord n a) n)))) (some (.int t)) (some (zt (a.map fun x => x + t * sg x))) (some (.lst true (nsD (hlf n (n - 1))))) y16 (some (zt (rowZ n))) (some (.lst true []))) (set_to (lst_ok (ds := []) rfl rfl) rfl)]
  rw [seq_nx e28]
  exact e29
end G09

end
open PySem PySem.W PyProof.Rows
set_option maxHeartbeats 0 in
theorem PySem.Challenge.cw_knotsooth_k09_braids_put_together_holds : PySem.Challenge.rw_knotsooth_k09_braids_put_together.Holds := by
  w_on; o_law; k_head; (case hw => w_witness2)
  k_fill
  refine L2.walk_ofB (l := PySem.Challenge.rw_knotsooth_k09_braids_put_together) (n := 63) (k := 5) (x := "script") (CX := fun _ => L2.CX0) (sp := fun w => Vl.spV _ 1 0 G09.F_law) rfl (by decide) rfl ⟨rfl, by decide, by decide⟩ (fun w h Y => PySem.W.kIn_of Y) ?F (fun w H a ns hl hb ho hs => Vl.law_sp G09.law_true H a ns hl hb ho hs) (fun _ _ _ _ _ h => h)
  case F =>
    intro w mg fa h KX G hmg
    refine' G09.all_mk KX G hmg ?a0 ?l0 ?c0 ?k0 ?a1 ?l1 ?c1 ?k1 ?a2 ?l2 ?c2 ?k2 ?a3 ?l3 ?c3 ?k3 ?a4 ?l4 ?c4 ?k4 ?a5 ?l5 ?c5 ?k5 ?a6 ?l6 ?c6 ?k6 ?a7 ?l7 ?c7 ?k7 ?a8 ?l8 ?c8 ?k8 ?a9 ?l9 ?c9 ?k9 ?a10 ?l10 ?c10 ?k10 ?a11 ?l11 ?c11 ?k11 ?a12 ?l12 ?c12 ?k12 ?a13 ?l13 ?c13 ?k13 ?a14 ?l14 ?c14 ?k14 ?a15 ?l15 ?c15 ?k15 ?a16 ?l16 ?c16 ?k16 ?a17 ?l17 ?c17 ?k17 ?a18 ?l18 ?c18 ?k18 ?a19 ?l19 ?c19 ?k19 ?a20 ?l20 ?c20 ?k20 ?a21 ?l21 ?c21 ?k21 ?a22 ?l22 ?c22 ?k22 ?a23 ?l23 ?c23 ?k23 ?a24 ?l24 ?c24 ?k24 ?a25 ?l25 ?c25 ?k25 ?a26 ?l26 ?c26 ?k26 ?a27 ?l27 ?c27 ?k27 ?a28 ?l28 ?c28 ?k28 ?a29 ?l29 ?c29 ?k29 ?a30 ?l30 ?c30 ?k30 ?a31 ?l31 ?c31 ?k31 ?a32 ?l32 ?c32 ?k32 ?a33 ?l33 ?c33 ?k33 ?a34 ?l34 ?c34 ?k34 ?a35 ?l35 ?c35 ?k35 ?a36 ?l36 ?c36 ?k36 ?a37 ?l37 ?c37 ?k37 ?a38 ?l38 ?c38 ?k38 ?a39 ?l39 ?c39 ?k39 ?a40 ?l40 ?c40 ?k40 ?a41 ?l41 ?c41 ?k41 ?z_abs ?z_any ?z_bool ?z_enumerate ?z_int ?z_isinstance ?z_len ?z_list ?z_max ?z_min ?z_range ?z_reversed ?z_sorted ?z_sum ?z_tuple ?b_MOST_STRANDS 
    (case a0 => k_is); (case l0 => k_is); (case c0 => k_is); (case k0 => k_is); (case a1 => k_is); (case l1 => k_is); (case c1 => k_is); (case k1 => k_is); (case a2 => k_is); (case l2 => k_is); (case c2 => k_is); (case k2 => k_is); (case a3 => k_is); (case l3 => k_is); (case c3 => k_is); (case k3 => k_is); (case a4 => k_is); (case l4 => k_is); (case c4 => k_is); (case k4 => k_is); (case a5 => k_is); (case l5 => k_is); (case c5 => k_is); (case k5 => k_is); (case a6 => k_is); (case l6 => k_is); (case c6 => k_is); (case k6 => k_is); (case a7 => k_is); (case l7 => k_is); (case c7 => k_is); (case k7 => k_is); (case a8 => k_is); (case l8 => k_is); (case c8 => k_is); (case k8 => k_is); (case a9 => k_is); (case l9 => k_is); (case c9 => k_is); (case k9 => k_is); (case a10 => k_is); (case l10 => k_is); (case c10 => k_is); (case k10 => k_is); (case a11 => k_is); (case l11 => k_is); (case c11 => k_is); (case k11 => k_is); (case a12 => k_is); (case l12 => k_is); (case c12 => k_is); (case k12 => k_is); (case a13 => k_is); (case l13 => k_is); (case c13 => k_is); (case k13 => k_is); (case a14 => k_is); (case l14 => k_is); (case c14 => k_is); (case k14 => k_is); (case a15 => k_is); (case l15 => k_is); (case c15 => k_is); (case k15 => k_is); (case a16 => k_is); (case l16 => k_is); (case c16 => k_is); (case k16 => k_is); (case a17 => k_is); (case l17 => k_is); (case c17 => k_is); (case k17 => k_is); (case a18 => k_is); (case l18 => k_is); (case c18 => k_is); (case k18 => k_is); (case a19 => k_is); (case l19 => k_is); (case c19 => k_is); (case k19 => k_is); (case a20 => k_is); (case l20 => k_is); (case c20 => k_is); (case k20 => k_is); (case a21 => k_is); (case l21 => k_is); (case c21 => k_is); (case k21 => k_is); (case a22 => k_is); (case l22 => k_is); (case c22 => k_is); (case k22 => k_is); (case a23 => k_is); (case l23 => k_is); (case c23 => k_is); (case k23 => k_is); (case a24 => k_is); (case l24 => k_is); (case c24 => k_is); (case k24 => k_is); (case a25 => k_is); (case l25 => k_is); (case c25 => k_is); (case k25 => k_is); (case a26 => k_is); (case l26 => k_is); (case c26 => k_is); (case k26 => k_is); (case a27 => k_is); (case l27 => k_is); (case c27 => k_is); (case k27 => k_is); (case a28 => k_is); (case l28 => k_is); (case c28 => k_is); (case k28 => k_is); (case a29 => k_is); (case l29 => k_is); (case c29 => k_is); (case k29 => k_is); (case a30 => k_is); (case l30 => k_is); (case c30 => k_is); (case k30 => k_is); (case a31 => k_is); (case l31 => k_is); (case c31 => k_is); (case k31 => k_is); (case a32 => k_is); (case l32 => k_is); (case c32 => k_is); (case k32 => k_is); (case a33 => k_is); (case l33 => k_is); (case c33 => k_is); (case k33 => k_is); (case a34 => k_is); (case l34 => k_is); (case c34 => k_is); (case k34 => k_is); (case a35 => k_is); (case l35 => k_is); (case c35 => k_is); (case k35 => k_is); (case a36 => k_is); (case l36 => k_is); (case c36 => k_is); (case k36 => k_is); (case a37 => k_is); (case l37 => k_is); (case c37 => k_is); (case k37 => k_is); (case a38 => k_is); (case l38 => k_is); (case c38 => k_is); (case k38 => k_is); (case a39 => k_is); (case l39 => k_is); (case c39 => k_is); (case k39 => k_is); (case a40 => k_is); (case l40 => k_is); (case c40 => k_is); (case k40 => k_is); (case a41 => k_is); (case l41 => k_is); (case c41 => k_is); (case k41 => k_is); (case z_abs => k_is); (case z_any => k_is); (case z_bool => k_is); (case z_enumerate => k_is); (case z_int => k_is); (case z_isinstance => k_is); (case z_len => k_is); (case z_list => k_is); (case z_max => k_is); (case z_min => k_is); (case z_range => k_is); (case z_reversed => k_is); (case z_sorted => k_is); (case z_sum => k_is); (case z_tuple => k_is); (case b_MOST_STRANDS => k_is)
