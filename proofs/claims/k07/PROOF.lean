import PyProof.Rows.All
import Wide.All
import OpenK.AllK
import Wide.FinOn
import HandS.ForMost
import HandS.Zip
import HandS.Rev
import HandS.RevRange
import HandS.TupAny
import HandS.TupMul
import HandS.TupSets
import HandS.DictTup
import HandS.DictComp
import HandS.DictEq
import HandS.DeepEq
import HandS.SortInts
import HandS.SortRule
import HandS.Style
import HandS.Conv
import HandS.Small
import HandS.Walk
import HandS.Wide
import HandS.IsInst
import HandS.Flow
import HandS.Gcd
import HandS.Deep
import HandS.TupLen
import KE.GoesMore
import KE.KRevIter
import HandS.EndBits
import HandS.Strs
import HandS.ReCall
import KE.KEqDict
import KE.KDictDisplayH
import KE.SortData
import PyProof.TupleOfSeq
import HandS.ExcValue
import PySem.Challenge.RW_knotsooth_k07_ranks_modulo_primes
set_option Elab.async false
set_option linter.all false
set_option maxRecDepth 100000
set_option maxHeartbeats 4000000
/-! A value layer over the hand layer: data as trees, slots that own what they may change. -/
namespace Vl
open PySem PySem.Spec PyProof.Rows L2

/-- a value as data; a list's or a dict's mark tells whether its holder alone knows it (and may change it) -/
inductive D where
  | non | bl (b : Bool) | int (i : Int) | str (s : Str)
  | tup (l : List D) | lst (o : Bool) (l : List D) | dct (o t : Bool) (l : List (D × D)) | scr (l : List D) | xt (l : List D)

namespace D
mutual
/-- nothing within is owned -/
def noOwn : D → Bool
  | .tup l => noOwnL l
  | .lst o l => !o && noOwnL l
  | .dct o _ l => !o && noOwnP l
  | .scr l => noOwnL l
  | .xt l => noOwnL l
  | .non => true
  | .bl _ => true
  | .int _ => true
  | .str _ => true
def noOwnL : List D → Bool
  | [] => true
  | d :: r => noOwn d && noOwnL r
def noOwnP : List (D × D) → Bool
  | [] => true
  | (_, d) :: r => noOwn d && noOwnP r
end
mutual
/-- nothing within is a frozen list or dict -/
def noFz : D → Bool
  | .tup l => noFzL l
  | .lst o l => o && noFzL l
  | .dct o _ l => o && noFzP l
  | .scr l => noFzL l
  | .xt l => noFzL l
  | .non => true
  | .bl _ => true
  | .int _ => true
  | .str _ => true
def noFzL : List D → Bool
  | [] => true
  | d :: r => noFz d && noFzL r
def noFzP : List (D × D) → Bool
  | [] => true
  | (_, d) :: r => noFz d && noFzP r
end
mutual
def frz : D → D
  | .tup l => .tup (frzL l)
  | .lst _ l => .lst false (frzL l)
  | .dct _ t l => .dct false t (frzP l)
  | .scr l => .scr (frzL l)
  | .xt l => .xt (frzL l)
  | .non => .non
  | .bl b => .bl b
  | .int i => .int i
  | .str s => .str s
def frzL : List D → List D
  | [] => []
  | d :: r => frz d :: frzL r
def frzP : List (D × D) → List (D × D)
  | [] => []
  | (k, d) :: r => (k, frz d) :: frzP r
end
end D

abbrev Env := List (Option D)
def kD : Key → D
  | .inl i => .int i
  | .inr s => .str s

/-- a list that is known for good -/
def SqF (K : PySem.W.Frag) (H : Hp) (a : Addr) (xs : List V) : Prop :=
  (∃ o, H a = some (.frz o (.lst xs))) ∨
    ∃ (o : Obj) (its : Array Value) (n : Nat), K.lookup a = some o ∧ o.cls = .type "list" ∧ o.dict = none ∧ o.data = .seq its n ∧ its.size ≤ sizeLine ∧ Vals xs its.toList
theorem SqF.l {K : PySem.W.Frag} {H : Hp} {a : Addr} {xs : List V} (h : SqF K H a xs) : SqL K H a xs := by
  rcases h with h | h
  · exact .inl (.inr h)
  · exact .inr h
/-- a dict by its pairs: t, whether its keys are tuples -/
def DcH (t : Bool) (ks : List D) (vs : List V) (o : HO) : Prop := match t with
  | false => ∃ kvs : List (Key × V), o = .dK kvs ∧ ks = kvs.map (fun p => kD p.1) ∧ vs = kvs.map (·.2)
  | true => ∃ kvs : List (List Key × V), o = .dT kvs ∧ ks = kvs.map (fun p => .tup (p.1.map kD)) ∧ vs = kvs.map (·.2)
def DcAt (H : Hp) (a : Addr) (t : Bool) (ks : List D) (vs : List V) : Prop := ∃ o, H a = some o ∧ DcH t ks vs o
def DcLk (H : Hp) (a : Addr) (t : Bool) (ks : List D) (vs : List V) : Prop := ∃ od o, H a = some (.frz od o) ∧ DcH t ks vs o

section
variable (K : PySem.W.Frag) (Z : Addr → Prop) (H : Hp)
mutual
inductive R : D → V → List Addr → Prop
  | non : R .non .non []
  | bl (b : Bool) : R (.bl b) (.bl b) []
  | int (i : Int) : R (.int i) (.int i) []
  | str (s : Str) : R (.str s) (.str s) []
  | tup {a : Addr} {vs : List V} {ds : List D} {F : List Addr} : H a = some (.tup vs) → Rs ds vs F → R (.tup ds) (.ref a) F
  | own {a : Addr} {vs : List V} {ds : List D} {F : List Addr} : H a = some (.lst vs) → Rs ds vs F → R (.lst true ds) (.ref a) (a :: F)
  | fzn {a : Addr} {vs : List V} {ds : List D} : H a = some (.lst vs) → Z a → Rs ds vs [] → R (.lst false ds) (.ref a) []
  | knw {a : Addr} {vs : List V} {ds : List D} : SqF K H a vs → Rs ds vs [] → R (.scr ds) (.ref a) []
  | dow {a : Addr} {t : Bool} {vs : List V} {kvs : List (D × D)} {F : List Addr} : DcAt H a t (kvs.map (·.1)) vs → Rs (kvs.map (·.2)) vs F → R (.dct true t kvs) (.ref a) (a :: F)
  | dfz {a : Addr} {t : Bool} {vs : List V} {kvs : List (D × D)} : DcAt H a t (kvs.map (·.1)) vs → Z a → Rs (kvs.map (·.2)) vs [] → R (.dct false t kvs) (.ref a) []
  | dlk {a : Addr} {t : Bool} {vs : List V} {kvs : List (D × D)} : DcLk H a t (kvs.map (·.1)) vs → Rs (kvs.map (·.2)) vs [] → R (.dct false t kvs) (.ref a) []
  | xt {a : Addr} {vs : List V} {ds : List D} {F : List Addr} {o : Obj} : H a = some (.frz o (.tup vs)) → o.cls = .type "tuple" → o.dict = none → Rs ds vs F → R (.xt ds) (.ref a) F
inductive Rs : List D → List V → List Addr → Prop
  | nil : Rs [] [] []
  | cons {d : D} {ds : List D} {v : V} {vs : List V} {F G : List Addr} : R d v F → Rs ds vs G → Rs (d :: ds) (v :: vs) (F ++ G)
end
end

/-- what is kept: all but M; tuples and known things always -/
structure Keep (M : Addr → Prop) (H H' : Hp) : Prop where
  out : ∀ a o, H a = some o → ¬ M a → H' a = some o
  tup : ∀ a xs, H a = some (.tup xs) → H' a = some (.tup xs)
  frz : ∀ a o u, H a = some (.frz o u) → H' a = some (.frz o u)
  dom : ∀ a, H a ≠ none → H' a ≠ none
abbrev M0 : Addr → Prop := fun _ => False
theorem Keep.refl (M : Addr → Prop) (H : Hp) : Keep M H H := ⟨fun _ _ h _ => h, fun _ _ h => h, fun _ _ _ h => h, fun _ h => h⟩
theorem Keep.new {M : Addr → Prop} {H : Hp} {p : Addr} {o : HO} (h : H p = none) : Keep M H (upd H p o) :=
  ⟨fun a u e _ => by rw [upd_ne (ne_of_none e h)]; exact e, fun a u e => by rw [upd_ne (ne_of_none e h)]; exact e, fun a u w e => by rw [upd_ne (ne_of_none e h)]; exact e,
    fun a e => by
      by_cases q : a = p
      · subst q; exact absurd h e
      · rw [upd_ne q]; exact e⟩
theorem Keep.trans {M M1 M2 : Addr → Prop} {H H1 H2 : Hp} (k1 : Keep M1 H H1) (k2 : Keep M2 H1 H2) (h1 : ∀ a, M1 a → M a) (h2 : ∀ a, M2 a → M a ∨ H a = none) : Keep M H H2 :=
  ⟨fun a o e n => k2.out a o (k1.out a o e fun z => n (h1 a z)) fun z => (h2 a z).elim n (fun q => by rw [q] at e; cases e),
    fun a xs e => k2.tup a xs (k1.tup a xs e), fun a o u e => k2.frz a o u (k1.frz a o u e), fun a e => k2.dom a (k1.dom a e)⟩
theorem Keep.mono {M M' : Addr → Prop} {H H' : Hp} (k : Keep M H H') (h : ∀ a, M a → M' a) : Keep M' H H' := ⟨fun a o e n => k.out a o e fun z => n (h a z), k.tup, k.frz, k.dom⟩
theorem Keep.tr0 {H H1 H2 : Hp} (k1 : Keep M0 H H1) (k2 : Keep M0 H1 H2) : Keep M0 H H2 := k1.trans k2 (fun _ h => h) fun _ h => h.elim
theorem Keep.back {M : Addr → Prop} {H H' : Hp} (k : Keep M H H') {a : Addr} (h : H' a = none) : H a = none := by
  cases e : H a with
  | none => rfl
  | some o => exact absurd h (k.dom a (by rw [e]; intro z; cases z))
/-- a list, a dict is written -/
theorem Keep.wr {H : Hp} {p : Addr} {o u : HO} (h : H p = some u) (hu : Mut (some u)) : Keep (fun a => a = p) H (upd H p o) := by
  refine ⟨fun a w e n => ?_, fun a xs e => ?_, fun a w z e => ?_, fun a e => ?_⟩
  · rw [upd_ne n]; exact e
  · by_cases q : a = p
    · subst q; rw [h] at e; cases e; exact hu.elim
    · rw [upd_ne q]; exact e
  · by_cases q : a = p
    · subst q; rw [h] at e; cases e; exact hu.elim
    · rw [upd_ne q]; exact e
  · by_cases q : a = p
    · subst q; rw [upd_same]; intro z; cases z
    · rw [upd_ne q]; exact e
theorem Keep.sqt {M : Addr → Prop} {K : PySem.W.Frag} {H H' : Hp} (k : Keep M H H') {a : Addr} {xs : List V} (h : SqT K H a xs) : SqT K H' a xs := by
  rcases h with (h | ⟨o, h⟩) | h
  · exact .inl (.inl (k.tup _ _ h))
  · exact .inl (.inr ⟨o, k.frz _ _ _ h⟩)
  · exact .inr h
theorem Keep.sqf {M : Addr → Prop} {K : PySem.W.Frag} {H H' : Hp} (k : Keep M H H') {a : Addr} {xs : List V} (h : SqF K H a xs) : SqF K H' a xs := by
  rcases h with ⟨o, h⟩ | h
  · exact .inl ⟨o, k.frz _ _ _ h⟩
  · exact .inr h
theorem Keep.dc {M : Addr → Prop} {H H' : Hp} (k : Keep M H H') {a : Addr} {t : Bool} {ks : List D} {vs : List V} (n : ¬ M a) (h : DcAt H a t ks vs) : DcAt H' a t ks vs := by
  obtain ⟨o, h, r⟩ := h
  exact ⟨o, k.out _ _ h n, r⟩
theorem Keep.dl {M : Addr → Prop} {H H' : Hp} (k : Keep M H H') {a : Addr} {t : Bool} {ks : List D} {vs : List V} (h : DcLk H a t ks vs) : DcLk H' a t ks vs := by
  obtain ⟨od, o, h, r⟩ := h
  exact ⟨od, o, k.frz _ _ _ h, r⟩
theorem app_eq_nil {F G : List Addr} (h : F ++ G = []) : F = [] ∧ G = [] := by
  cases F with
  | nil => exact ⟨rfl, h⟩
  | cons a r => cases h
section
variable {K : PySem.W.Frag} {Z Z' : Addr → Prop} {H H' : Hp}
mutual
/-- what a value's data lean on is kept -/
theorem R.keep {M : Addr → Prop} (k : Keep M H H') (hz : ∀ a, Z a → Z' a) (hm : ∀ a, Z a → ¬ M a) : ∀ {d : D} {v : V} {F : List Addr}, R K Z H d v F → (∀ a ∈ F, ¬ M a) → R K Z' H' d v F
  | _, _, _, .non, _ => .non
  | _, _, _, .bl b, _ => .bl b
  | _, _, _, .int i, _ => .int i
  | _, _, _, .str s, _ => .str s
  | _, _, _, .tup h r, hf => .tup (k.tup _ _ h) (Rs.keep k hz hm r hf)
  | _, _, _, .own h r, hf => .own (k.out _ _ h (hf _ List.mem_cons_self)) (Rs.keep k hz hm r fun a ha => hf a (List.mem_cons_of_mem _ ha))
  | _, _, _, .fzn h z r, hf => .fzn (k.out _ _ h (hm _ z)) (hz _ z) (Rs.keep k hz hm r hf)
  | _, _, _, .knw h r, hf => .knw (k.sqf h) (Rs.keep k hz hm r hf)
  | _, _, _, .dow h r, hf => .dow (k.dc (hf _ List.mem_cons_self) h) (Rs.keep k hz hm r fun a ha => hf a (List.mem_cons_of_mem _ ha))
  | _, _, _, .dfz h z r, hf => .dfz (k.dc (hm _ z) h) (hz _ z) (Rs.keep k hz hm r hf)
  | _, _, _, .dlk h r, hf => .dlk (k.dl h) (Rs.keep k hz hm r hf)
  | _, _, _, .xt h h1 h2 r, hf => .xt (k.frz _ _ _ h) h1 h2 (Rs.keep k hz hm r hf)
theorem Rs.keep {M : Addr → Prop} (k : Keep M H H') (hz : ∀ a, Z a → Z' a) (hm : ∀ a, Z a → ¬ M a) : ∀ {ds : List D} {vs : List V} {F : List Addr}, Rs K Z H ds vs F → (∀ a ∈ F, ¬ M a) → Rs K Z' H' ds vs F
  | _, _, _, .nil, _ => .nil
  | _, _, _, .cons r rs, hf => .cons (R.keep k hz hm r fun a ha => hf a (List.mem_append_left _ ha)) (Rs.keep k hz hm rs fun a ha => hf a (List.mem_append_right _ ha))
end
theorem DcAt.tr {a : Addr} {t : Bool} {ks : List D} {vs : List V} (h : DcAt H a t ks vs) : H a ≠ none := by
  obtain ⟨o, h, r⟩ := h
  rw [h]
  intro z
  cases z
mutual
theorem R.tr : ∀ {d : D} {v : V} {F : List Addr}, R K Z H d v F → ∀ a ∈ F, H a ≠ none
  | _, _, _, .non, _, h => nomatch h
  | _, _, _, .bl b, _, h => nomatch h
  | _, _, _, .int i, _, h => nomatch h
  | _, _, _, .str s, _, h => nomatch h
  | _, _, _, .tup _ r, a, ha => Rs.tr r a ha
  | _, _, _, .own h r, a, ha => by
    rcases List.mem_cons.mp ha with rfl | ha
    · rw [h]; intro z; cases z
    · exact Rs.tr r a ha
  | _, _, _, .fzn _ _ _, _, h => nomatch h
  | _, _, _, .knw _ _, _, h => nomatch h
  | _, _, _, .dow h r, a, ha => by
    rcases List.mem_cons.mp ha with rfl | ha
    · exact h.tr
    · exact Rs.tr r a ha
  | _, _, _, .dfz _ _ _, _, h => nomatch h
  | _, _, _, .dlk _ _, _, h => nomatch h
  | _, _, _, .xt _ _ _ r, a, ha => Rs.tr r a ha
theorem Rs.tr : ∀ {ds : List D} {vs : List V} {F : List Addr}, Rs K Z H ds vs F → ∀ a ∈ F, H a ≠ none
  | _, _, _, .nil, _, h => nomatch h
  | _, _, _, .cons r rs, a, ha => by
    rcases List.mem_append.mp ha with ha | ha
    · exact R.tr r a ha
    · exact Rs.tr rs a ha
end
theorem noOwnP_eq : ∀ l : List (D × D), D.noOwnP l = D.noOwnL (l.map (·.2))
  | [] => rfl
  | (k, d) :: r => by
    show (D.noOwn d && D.noOwnP r) = (D.noOwn d && D.noOwnL (r.map (·.2)))
    rw [noOwnP_eq r]
theorem frzP_fst : ∀ l : List (D × D), (D.frzP l).map (·.1) = l.map (·.1)
  | [] => rfl
  | (k, d) :: r => by
    show k :: (D.frzP r).map (·.1) = k :: r.map (·.1)
    rw [frzP_fst r]
theorem frzP_snd : ∀ l : List (D × D), (D.frzP l).map (·.2) = D.frzL (l.map (·.2))
  | [] => rfl
  | (k, d) :: r => by
    show D.frz d :: (D.frzP r).map (·.2) = D.frz d :: D.frzL (r.map (·.2))
    rw [frzP_snd r]
mutual
theorem R.no : ∀ {d : D} {v : V} {F : List Addr}, R K Z H d v F → d.noOwn = true → F = []
  | _, _, _, .non, _ => rfl
  | _, _, _, .bl b, _ => rfl
  | _, _, _, .int i, _ => rfl
  | _, _, _, .str s, _ => rfl
  | _, _, _, .tup _ r, h => Rs.no r h
  | _, _, _, .own _ _, h => by simp [D.noOwn] at h
  | _, _, _, .fzn _ _ _, _ => rfl
  | _, _, _, .knw _ _, _ => rfl
  | _, _, _, .dow _ _, h => by simp [D.noOwn] at h
  | _, _, _, .dfz _ _ _, _ => rfl
  | _, _, _, .dlk _ _, _ => rfl
  | _, _, _, .xt _ _ _ r, h => Rs.no r h
theorem Rs.no : ∀ {ds : List D} {vs : List V} {F : List Addr}, Rs K Z H ds vs F → D.noOwnL ds = true → F = []
  | _, _, _, .nil, _ => rfl
  | _, _, _, .cons r rs, h => by
    have h : (D.noOwn _ && D.noOwnL _) = true := h
    rw [Bool.and_eq_true] at h
    rw [R.no r h.1, Rs.no rs h.2]
    rfl
end
mutual
/-- frozen: the owned things become things that stay -/
theorem R.freeze (hz : ∀ a, Z a → Z' a) : ∀ {d : D} {v : V} {F : List Addr}, R K Z H d v F → (∀ a ∈ F, Z' a) → R K Z' H d.frz v []
  | _, _, _, .non, _ => .non
  | _, _, _, .bl b, _ => .bl b
  | _, _, _, .int i, _ => .int i
  | _, _, _, .str s, _ => .str s
  | _, _, _, .tup h r, hf => .tup h (Rs.freeze hz r hf)
  | _, _, _, .own h r, hf => .fzn h (hf _ List.mem_cons_self) (Rs.freeze hz r fun a ha => hf a (List.mem_cons_of_mem _ ha))
  | _, _, _, .fzn h z r, hf => .fzn h (hz _ z) (Rs.freeze hz r hf)
  | _, _, _, .knw h r, hf => .knw h (Rs.freeze hz r hf)
  | _, _, _, .dow h r, hf => .dfz (by rw [frzP_fst]; exact h) (hf _ List.mem_cons_self) (by rw [frzP_snd]; exact Rs.freeze hz r fun a ha => hf a (List.mem_cons_of_mem _ ha))
  | _, _, _, .dfz h z r, hf => .dfz (by rw [frzP_fst]; exact h) (hz _ z) (by rw [frzP_snd]; exact Rs.freeze hz r hf)
  | _, _, _, .dlk h r, hf => .dlk (by rw [frzP_fst]; exact h) (by rw [frzP_snd]; exact Rs.freeze hz r hf)
  | _, _, _, .xt h h1 h2 r, hf => .xt h h1 h2 (Rs.freeze hz r hf)
theorem Rs.freeze (hz : ∀ a, Z a → Z' a) : ∀ {ds : List D} {vs : List V} {F : List Addr}, Rs K Z H ds vs F → (∀ a ∈ F, Z' a) → Rs K Z' H (D.frzL ds) vs []
  | _, _, _, .nil, _ => .nil
  | _, _, _, .cons r rs, hf => Rs.cons (F := []) (G := []) (R.freeze hz r fun a ha => hf a (List.mem_append_left _ ha)) (Rs.freeze hz rs fun a ha => hf a (List.mem_append_right _ ha))
end
theorem noFzP_eq : ∀ l : List (D × D), D.noFzP l = D.noFzL (l.map (·.2))
  | [] => rfl
  | (k, d) :: r => by
    show (D.noFz d && D.noFzP r) = (D.noFz d && D.noFzL (r.map (·.2)))
    rw [noFzP_eq r]
mutual
/-- without frozen things the known set does not matter -/
theorem R.any : ∀ {d : D} {v : V} {F : List Addr}, R K Z H d v F → d.noFz = true → R K Z' H d v F
  | _, _, _, .non, _ => .non
  | _, _, _, .bl b, _ => .bl b
  | _, _, _, .int i, _ => .int i
  | _, _, _, .str s, _ => .str s
  | _, _, _, .tup h r, hf => .tup h (Rs.any r hf)
  | _, _, _, .own h r, hf => .own h (Rs.any r (by simpa [D.noFz] using hf))
  | _, _, _, .fzn h z r, hf => by simp [D.noFz] at hf
  | _, _, _, .knw h r, hf => .knw h (Rs.any r (by simpa [D.noFz] using hf))
  | _, _, _, .dow h r, hf => .dow h (Rs.any r (by simpa [D.noFz, noFzP_eq] using hf))
  | _, _, _, .dfz h z r, hf => by simp [D.noFz] at hf
  | _, _, _, .dlk h r, hf => by simp [D.noFz] at hf
  | _, _, _, .xt h h1 h2 r, hf => .xt h h1 h2 (Rs.any r hf)
theorem Rs.any : ∀ {ds : List D} {vs : List V} {F : List Addr}, Rs K Z H ds vs F → D.noFzL ds = true → Rs K Z' H ds vs F
  | _, _, _, .nil, _ => .nil
  | _, _, _, .cons r rs, h => by
    have h : (D.noFz _ && D.noFzL _) = true := h
    rw [Bool.and_eq_true] at h
    exact .cons (R.any r h.1) (Rs.any rs h.2)
end
theorem Rs.length : ∀ {ds : List D} {vs : List V} {F : List Addr}, Rs K Z H ds vs F → ds.length = vs.length
  | _, _, _, .nil => rfl
  | _, _, _, .cons _ rs => congrArg (· + 1) rs.length
theorem Rs.get : ∀ {ds : List D} {vs : List V} {F : List Addr} {i : Nat} {d : D}, Rs K Z H ds vs F → ds[i]? = some d → ∃ v G, vs[i]? = some v ∧ R K Z H d v G ∧ ∀ a ∈ G, a ∈ F
  | _, _, _, _, _, .nil, e => by simp at e
  | _, _, _, 0, _, .cons r rs, e => by
    simp at e; subst e
    exact ⟨_, _, rfl, r, fun a ha => List.mem_append_left _ ha⟩
  | _, _, _, i + 1, d, .cons r rs, e => by
    obtain ⟨v, G, h1, h2, h3⟩ := Rs.get (i := i) (d := d) rs (by simpa using e)
    exact ⟨v, G, by simpa using h1, h2, fun a ha => List.mem_append_right _ (h3 a ha)⟩
theorem Rs.app : ∀ {ds es : List D} {vs ws : List V} {F G : List Addr}, Rs K Z H ds vs F → Rs K Z H es ws G → Rs K Z H (ds ++ es) (vs ++ ws) (F ++ G)
  | _, _, _, _, _, _, .nil, s => s
  | _, _, _, _, _, _, .cons r rs, s => by
    rw [List.append_assoc]
    exact .cons r (rs.app s)
theorem Rs.one {d : D} {v : V} {F : List Addr} (r : R K Z H d v F) : Rs K Z H [d] [v] F := by
  have e := Rs.cons r Rs.nil
  rwa [List.append_nil] at e
theorem Rs.nil_of {ds : List D} {vs : List V} {F : List Addr} (r : Rs K Z H ds vs F) (h : D.noOwnL ds = true) : Rs K Z H ds vs [] := by
  have e := Rs.no r h
  subst e
  exact r
theorem Rs.cons0 {d : D} {ds : List D} {v : V} {vs : List V} (r : R K Z H d v []) (rs : Rs K Z H ds vs []) : Rs K Z H (d :: ds) (v :: vs) [] := Rs.cons (F := []) (G := []) r rs
theorem Rs.uncons {d : D} {ds : List D} {vs : List V} {F : List Addr} (r : Rs K Z H (d :: ds) vs F) : ∃ v ws F1 F2, vs = v :: ws ∧ F = F1 ++ F2 ∧ R K Z H d v F1 ∧ Rs K Z H ds ws F2 := by
  cases r with
  | cons r rs => exact ⟨_, _, _, _, rfl, rfl, r, rs⟩
end
namespace D
mutual
/-- an exact tuple is a tuple -/
def fg : D → D
  | .tup l => .tup (fgL l)
  | .lst o l => .lst o (fgL l)
  | .dct o t l => .dct o t (fgP l)
  | .scr l => .scr (fgL l)
  | .xt l => .xt (fgL l)
  | .non => .non
  | .bl b => .bl b
  | .int i => .int i
  | .str s => .str s
def fgL : List D → List D
  | [] => []
  | d :: r => fg d :: fgL r
def fgP : List (D × D) → List (D × D)
  | [] => []
  | (k, d) :: r => (k, fg d) :: fgP r
end
end D
theorem fgP_fst : ∀ l : List (D × D), (D.fgP l).map (·.1) = l.map (·.1)
  | [] => rfl
  | (k, d) :: r => congrArg (k :: ·) (fgP_fst r)
theorem fgP_snd : ∀ l : List (D × D), (D.fgP l).map (·.2) = D.fgL (l.map (·.2))
  | [] => rfl
  | (k, d) :: r => congrArg (D.fg d :: ·) (fgP_snd r)
section
variable {K : PySem.W.Frag} {Z : Addr → Prop} {H : Hp}
mutual
theorem R.fg : ∀ {d : D} {v : V} {F : List Addr}, R K Z H d v F → R K Z H d.fg v F
  | _, _, _, .non => .non
  | _, _, _, .bl b => .bl b
  | _, _, _, .int i => .int i
  | _, _, _, .str s => .str s
  | _, _, _, .tup h r => .tup h (Rs.fg r)
  | _, _, _, .own h r => .own h (Rs.fg r)
  | _, _, _, .fzn h z r => .fzn h z (Rs.fg r)
  | _, _, _, .knw h r => .knw h (Rs.fg r)
  | _, _, _, .dow h r => .dow (by rw [fgP_fst]; exact h) (by rw [fgP_snd]; exact Rs.fg r)
  | _, _, _, .dfz h z r => .dfz (by rw [fgP_fst]; exact h) z (by rw [fgP_snd]; exact Rs.fg r)
  | _, _, _, .dlk h r => .dlk (by rw [fgP_fst]; exact h) (by rw [fgP_snd]; exact Rs.fg r)
  | _, _, _, .xt h h1 h2 r => .xt h h1 h2 (Rs.fg r)
theorem Rs.fg : ∀ {ds : List D} {vs : List V} {F : List Addr}, Rs K Z H ds vs F → Rs K Z H (D.fgL ds) vs F
  | _, _, _, .nil => .nil
  | _, _, _, .cons r rs => .cons (R.fg r) (Rs.fg rs)
end
end
end Vl

namespace Vl
open PySem PySem.Spec PyProof.Rows L2

abbrev Ft := Nat → List Addr
/-- the slots' data: each owned thing has one holder -/
structure Rel (K : PySem.W.Frag) (Z : Addr → Prop) (ρ : Env) (σ : L2.St) (H : Hp) (Fs : Ft) : Prop where
  at_ : ∀ i d, ρ[i]? = some (some d) → ∃ v, σ[i]? = some (some v) ∧ R K Z H d v (Fs i)
  nd : ∀ i, (Fs i).Nodup
  dj : ∀ i j a, a ∈ Fs i → a ∈ Fs j → i = j
  nz : ∀ i a, a ∈ Fs i → ¬ Z a
  zt : ∀ a, Z a → H a ≠ none
  ft : ∀ i a, a ∈ Fs i → H a ≠ none
  len : ρ.length = σ.length

/-- what a step may touch: the slots T -/
structure Frm (T : List Nat) (Z : Addr → Prop) (ρ : Env) (Fs : Ft) (H : Hp) (Z' : Addr → Prop) (ρ' : Env) (Fs' : Ft) (H' : Hp) : Prop where
  sub : ∀ j, j ∉ T → Fs' j = Fs j ∧ ρ'[j]? = ρ[j]?
  keep : Keep (fun a => ∃ j ∈ T, a ∈ Fs j) H H'
  c1 : ∀ j ∈ T, ∀ a ∈ Fs' j, (∃ i ∈ T, a ∈ Fs i) ∨ H a = none
  c3 : ∀ a, Z' a → Z a ∨ (∃ i ∈ T, a ∈ Fs i) ∨ H a = none
  zz : ∀ a, Z a → Z' a
  len : ρ'.length = ρ.length

structure Val (K : PySem.W.Frag) (Z : Addr → Prop) (H : Hp) (Fs : Ft) (O : List Nat) (x : Bool) (d : D) (v : V) (F : List Addr) : Prop where
  r : R K Z H d v F
  ori : ∀ j a, a ∈ F → a ∈ Fs j → j ∈ O
  exc : x = true → F.Nodup ∧ ∀ a ∈ F, ¬ Z a
structure Vls (K : PySem.W.Frag) (Z : Addr → Prop) (H : Hp) (Fs : Ft) (O : List Nat) (x : Bool) (ds : List D) (vs : List V) (F : List Addr) : Prop where
  r : Rs K Z H ds vs F
  ori : ∀ j a, a ∈ F → a ∈ Fs j → j ∈ O
  exc : x = true → F.Nodup ∧ ∀ a ∈ F, ¬ Z a
/-- where an exclusive value's things come from -/
def Cf (T : List Nat) (Fs : Ft) (H : Hp) (x : Bool) (F : List Addr) : Prop := x = true → ∀ a ∈ F, (∃ j ∈ T, a ∈ Fs j) ∨ H a = none

def safe (O T : List Nat) (d : D) : Bool := O.all (fun i => !T.contains i) || d.noOwn
def safeL (O T : List Nat) (ds : List D) : Bool := O.all (fun i => !T.contains i) || D.noOwnL ds

section
variable {T T1 T2 O O1 O2 : List Nat} {K : PySem.W.Frag} {Z Z' Z1 Z2 : Addr → Prop} {ρ ρ' ρ1 ρ2 : Env} {Fs Fs' Fs1 Fs2 : Ft} {H H' H1 H2 : Hp} {x : Bool} {d : D} {v : V} {F : List Addr} {σ : L2.St}
theorem Frm.refl (T : List Nat) : Frm T Z ρ Fs H Z ρ Fs H := ⟨fun _ _ => ⟨rfl, rfl⟩, Keep.refl _ _, fun j hj a ha => .inl ⟨j, hj, ha⟩, fun _ h => .inl h, fun _ h => h, rfl⟩
theorem Frm.trans (f1 : Frm T1 Z ρ Fs H Z1 ρ1 Fs1 H1) (f2 : Frm T2 Z1 ρ1 Fs1 H1 Z2 ρ2 Fs2 H2) : Frm (T1 ++ T2) Z ρ Fs H Z2 ρ2 Fs2 H2 := by
  have up1 : ∀ {a}, (∃ i ∈ T1, a ∈ Fs i) → ∃ i ∈ T1 ++ T2, a ∈ Fs i := fun ⟨i, hi, ha⟩ => ⟨i, List.mem_append_left _ hi, ha⟩
  have mid : ∀ {a}, (∃ i ∈ T2, a ∈ Fs1 i) → (∃ i ∈ T1 ++ T2, a ∈ Fs i) ∨ H a = none := fun {a} ⟨i, hi, ha⟩ => by
    by_cases h : i ∈ T1
    · exact (f1.c1 i h a ha).imp up1 id
    · rw [(f1.sub i h).1] at ha
      exact .inl ⟨i, List.mem_append_right _ hi, ha⟩
  refine ⟨fun j hj => ?_, f1.keep.trans f2.keep (fun a h => up1 h) fun a h => mid h, fun j hj a ha => ?_, fun a h => ?_, fun a h => f2.zz a (f1.zz a h), f2.len.trans f1.len⟩
  · have h1 : j ∉ T1 := fun z => hj (List.mem_append_left _ z)
    have h2 : j ∉ T2 := fun z => hj (List.mem_append_right _ z)
    exact ⟨(f2.sub j h2).1.trans (f1.sub j h1).1, (f2.sub j h2).2.trans (f1.sub j h1).2⟩
  · by_cases h2 : j ∈ T2
    · rcases f2.c1 j h2 a ha with h | h
      · exact mid h
      · exact .inr (f1.keep.back h)
    · rw [(f2.sub j h2).1] at ha
      rcases List.mem_append.mp hj with h1 | h1
      · exact (f1.c1 j h1 a ha).imp up1 id
      · exact absurd h1 h2
  · rcases f2.c3 a h with h | h | h
    · exact (f1.c3 a h).imp id fun h => h.imp up1 id
    · exact .inr (mid h)
    · exact .inr (.inr (f1.keep.back h))
theorem Frm.mono (f : Frm T Z ρ Fs H Z' ρ' Fs' H') (h : ∀ i ∈ T, i ∈ T1) : Frm T1 Z ρ Fs H Z' ρ' Fs' H' := by
  have up : ∀ {a}, (∃ i ∈ T, a ∈ Fs i) → ∃ i ∈ T1, a ∈ Fs i := fun ⟨i, hi, ha⟩ => ⟨i, h i hi, ha⟩
  refine ⟨fun j hj => f.sub j fun z => hj (h j z), f.keep.mono fun a z => up z, fun j hj a ha => ?_, fun a z => (f.c3 a z).imp id fun z => z.imp up id, f.zz, f.len⟩
  by_cases q : j ∈ T
  · exact (f.c1 j q a ha).imp up id
  · rw [(f.sub j q).1] at ha
    exact .inl ⟨j, hj, ha⟩
/-- a pure step -/
theorem Frm.pure (k : Keep M0 H H') : Frm [] Z ρ Fs H Z ρ Fs H' :=
  ⟨fun _ _ => ⟨rfl, rfl⟩, k.mono fun _ h => h.elim, fun _ h => (by cases h), fun _ h => .inl h, fun _ h => h, rfl⟩
theorem Frm.pureT (T : List Nat) (k : Keep M0 H H') : Frm T Z ρ Fs H Z ρ Fs H' := (Frm.pure k).mono fun _ h => (by cases h)

theorem safe_or (h : safe O T d = true) : (∀ i ∈ O, i ∉ T) ∨ d.noOwn = true := by
  unfold safe at h
  rw [Bool.or_eq_true] at h
  refine h.imp (fun h i hi ht => ?_) id
  have := List.all_eq_true.mp h i hi
  simp [ht] at this
theorem safeL_or {ds : List D} (h : safeL O T ds = true) : (∀ i ∈ O, i ∉ T) ∨ D.noOwnL ds = true := by
  unfold safeL at h
  rw [Bool.or_eq_true] at h
  refine h.imp (fun h i hi ht => ?_) id
  have := List.all_eq_true.mp h i hi
  simp [ht] at this
/-- things outside of what a step touches -/
theorem Frm.far (f : Frm T Z ρ Fs H Z' ρ' Fs' H') (ho : ∀ j a, a ∈ F → a ∈ Fs j → j ∈ O) (hs : ∀ i ∈ O, i ∉ T) : ∀ a ∈ F, ¬ ∃ j ∈ T, a ∈ Fs j := fun a ha ⟨j, hj, hf⟩ => hs j (ho j a ha hf) hj
/-- a value stays through a later step -/
theorem Val.keep (w : Val K Z H Fs O x d v F) (rel : Rel K Z ρ σ H Fs) (f : Frm T Z ρ Fs H Z' ρ' Fs' H') (hs : safe O T d = true) : Val K Z' H' Fs' O x d v F := by
  rcases safe_or hs with hs | hn
  · have far := f.far w.ori hs
    have tr := w.r.tr
    refine ⟨w.r.keep f.keep f.zz (fun a z ⟨j, hj, ha⟩ => rel.nz j a ha z) far, fun j a ha hj => ?_, fun hx => ⟨(w.exc hx).1, fun a ha z => ?_⟩⟩
    · by_cases h : j ∈ T
      · rcases f.c1 j h a hj with q | q
        · exact absurd q (far a ha)
        · exact absurd q (tr a ha)
      · rw [(f.sub j h).1] at hj
        exact w.ori j a ha hj
    · rcases f.c3 a z with q | q | q
      · exact (w.exc hx).2 a ha q
      · exact far a ha q
      · exact tr a ha q
  · have e := w.r.no hn
    subst e
    exact ⟨w.r.keep f.keep f.zz (fun a z ⟨j, hj, ha⟩ => rel.nz j a ha z) (fun a h => (by cases h)), fun j a ha => (by cases ha), fun _ => ⟨List.nodup_nil, fun a ha => (by cases ha)⟩⟩
theorem Vls.keep {ds : List D} {vs : List V} (w : Vls K Z H Fs O x ds vs F) (rel : Rel K Z ρ σ H Fs) (f : Frm T Z ρ Fs H Z' ρ' Fs' H') (hs : safeL O T ds = true) : Vls K Z' H' Fs' O x ds vs F := by
  rcases safeL_or hs with hs | hn
  · have far := f.far w.ori hs
    have tr := w.r.tr
    refine ⟨w.r.keep f.keep f.zz (fun a z ⟨j, hj, ha⟩ => rel.nz j a ha z) far, fun j a ha hj => ?_, fun hx => ⟨(w.exc hx).1, fun a ha z => ?_⟩⟩
    · by_cases h : j ∈ T
      · rcases f.c1 j h a hj with q | q
        · exact absurd q (far a ha)
        · exact absurd q (tr a ha)
      · rw [(f.sub j h).1] at hj
        exact w.ori j a ha hj
    · rcases f.c3 a z with q | q | q
      · exact (w.exc hx).2 a ha q
      · exact far a ha q
      · exact tr a ha q
  · have e := w.r.no hn
    subst e
    exact ⟨w.r.keep f.keep f.zz (fun a z ⟨j, hj, ha⟩ => rel.nz j a ha z) (fun a h => (by cases h)), fun j a ha => (by cases ha), fun _ => ⟨List.nodup_nil, fun a ha => (by cases ha)⟩⟩
/-- the slots through a pure step -/
theorem Rel.keep0 (r : Rel K Z ρ σ H Fs) (k : Keep M0 H H') : Rel K Z ρ σ H' Fs :=
  ⟨fun i d e => let ⟨v, h1, h2⟩ := r.at_ i d e; ⟨v, h1, h2.keep k (fun _ h => h) (fun _ _ h => h) fun _ _ h => h⟩, r.nd, r.dj, r.nz, fun a h => k.dom a (r.zt a h), fun i a h => k.dom a (r.ft i a h), r.len⟩
end

/-! ### the judgements -/
abbrev M (α : Type) := Env → Option (α × Env)
def tV (K : PySem.W.Frag) (T O : List Nat) (x : Bool) (f : M D) : TE := fun σ H Q => ∃ Z ρ Fs d ρ', Rel K Z ρ σ H Fs ∧ f ρ = some (d, ρ') ∧
  ∀ v H' Z' Fs' F, Rel K Z' ρ' σ H' Fs' → Frm T Z ρ Fs H Z' ρ' Fs' H' → Val K Z' H' Fs' O x d v F → Cf T Fs H x F → Q v H'
def tVL (K : PySem.W.Frag) (T O : List Nat) (x : Bool) (f : M (List D)) : TA := fun σ H Q => ∃ Z ρ Fs ds ρ', Rel K Z ρ σ H Fs ∧ f ρ = some (ds, ρ') ∧
  ∀ vs H' Z' Fs' F, Rel K Z' ρ' σ H' Fs' → Frm T Z ρ Fs H Z' ρ' Fs' H' → Vls K Z' H' Fs' O x ds vs F → Cf T Fs H x F → Q vs H'
def tVT (K : PySem.W.Frag) (T : List Nat) (f : M Bool) : TT := fun σ H Q => ∃ Z ρ Fs b ρ', Rel K Z ρ σ H Fs ∧ f ρ = some (b, ρ') ∧
  ∀ H' Z' Fs', Rel K Z' ρ' σ H' Fs' → Frm T Z ρ Fs H Z' ρ' Fs' H' → Q b H'
abbrev PEV (X : Cx) (T O : List Nat) (x : Bool) (e : Expr) (f : M D) : Prop := PE X e (tV X.K T O x f)
abbrev PAV (X : Cx) (T O : List Nat) (x : Bool) (es : List Expr) (f : M (List D)) : Prop := PA X es (tVL X.K T O x f)
abbrev PTV (X : Cx) (T : List Nat) (e : Expr) (f : M Bool) : Prop := PT X e (tVT X.K T f)

theorem PE.imp {X : Cx} {e : Expr} {t t' : TE} (h : PE X e t) (i : ∀ σ H Q, t' σ H Q → t σ H Q) : PE X e t' := ⟨fun pins s σ H Q I q => h.run pins s σ H Q I (i σ H Q q)⟩
theorem PT.imp {X : Cx} {e : Expr} {t t' : TT} (h : PT X e t) (i : ∀ σ H Q, t' σ H Q → t σ H Q) : PT X e t' := ⟨fun pins s σ H Q I q => h.run pins s σ H Q I (i σ H Q q)⟩
theorem PW.imp {X : Cx} {e : Expr} {t t' : TT} (h : PW X e t) (i : ∀ σ H Q, t' σ H Q → t σ H Q) : PW X e t' := ⟨fun wh pins s σ H Q I q => h.run wh pins s σ H Q I (i σ H Q q)⟩
theorem PA.imp {X : Cx} {e : List Expr} {t t' : TA} (h : PA X e t) (i : ∀ σ H Q, t' σ H Q → t σ H Q) : PA X e t' := ⟨fun p pins s σ H Q I q => h.run p pins s σ H Q I (i σ H Q q)⟩
theorem PS.imp {X : Cx} {e : Stmt} {t t' : TS} (h : PS X e t) (i : ∀ D σ H, t' D σ H → t D σ H) : PS X e t' := ⟨fun pins s σ H D I q => h.run pins s σ H D I (i D σ H q)⟩
theorem PSs.imp {X : Cx} {e : List Stmt} {t t' : TS} (h : PSs X e t) (i : ∀ D σ H, t' D σ H → t D σ H) : PSs X e t' := ⟨fun pins s σ H D I q => h.run pins s σ H D I (i D σ H q)⟩
end Vl

namespace Vl
open PySem PySem.Spec PyProof.Rows L2

def Env.at (ρ : Env) (i : Nat) : Option D := match ρ[i]? with
  | some (some d) => some d
  | _ => none
theorem Env.at_some {ρ : Env} {i : Nat} {d : D} (h : Env.at ρ i = some d) : ρ[i]? = some (some d) := by
  unfold Env.at at h
  split at h
  · rename_i e q
    cases h
    exact q
  · cases h
theorem Env.lt {ρ : Env} {i : Nat} {o : Option D} (h : ρ[i]? = some o) : i < ρ.length := (List.getElem?_eq_some_iff.mp h).1

def fVar (i : Nat) : M D := fun ρ => (Env.at ρ i).bind fun d => some (d, ρ)
def fVal (i : Nat) : M D := fun ρ => (Env.at ρ i).bind fun d => if d.noOwn = true then some (d, ρ) else none
def fMov (i : Nat) : M D := fun ρ => (Env.at ρ i).bind fun d => some (d, ρ.set i none)
def fAli (i : Nat) : M D := fun ρ => (Env.at ρ i).bind fun d => if d.noOwn = true then some (d, ρ) else some (d.frz, ρ.set i (some d.frz))
def fC (d : D) : M D := fun ρ => some (d, ρ)
def chk (f : M D) : M D := fun ρ => (f ρ).bind fun p => if p.1.noOwn = true then some p else none
def fOp (O1 T2 : List Nat) (g : D → D → Option D) (fa fb : M D) : M D := fun ρ => (fa ρ).bind fun p => (fb p.2).bind fun q => if safe O1 T2 p.1 = true then (g p.1 q.1).bind fun d => some (d, q.2) else none
def fUn (g : D → Option D) (fa : M D) : M D := fun ρ => (fa ρ).bind fun p => (g p.1).bind fun d => some (d, p.2)
def fNil : M (List D) := fun ρ => some ([], ρ)
def fCons (O1 T2 : List Nat) (fa : M D) (fr : M (List D)) : M (List D) := fun ρ => (fa ρ).bind fun p => (fr p.2).bind fun q => if safe O1 T2 p.1 = true then some (p.1 :: q.1, q.2) else none

section
variable {X : Cx} {T T1 T2 O O1 O2 : List Nat} {x x1 x2 : Bool} {a b c e : Expr} {es : List Expr} {fa fb fc f : M D} {fr : M (List D)} {pos : Pos}

theorem Val.imm {K : PySem.W.Frag} {Z : Addr → Prop} {H : Hp} {Fs : Ft} {d : D} {v : V} {F : List Addr} (r : R K Z H d v F) (h : d.noOwn = true) : Val K Z H Fs [] true d v [] := by
  have e := r.no h
  subst e
  exact ⟨r, fun _ _ h => (by cases h), fun _ => ⟨List.nodup_nil, fun _ h => (by cases h)⟩⟩
theorem Cf.nil {T : List Nat} {Fs : Ft} {H : Hp} {x : Bool} : Cf T Fs H x [] := fun _ _ h => (by cases h)

/-! ### names -/
theorem pev_var (i : Nat) {y : Str} (hN : X.N[i]? = some y := by rfl) (hv : Vis X.env.scope y := by first | exact Or.inl rfl | exact Or.inr (Or.inl rfl) | exact Or.inr (Or.inr rfl)) (hd : (y == ("__debug__" : Str)) = false := by decide)
    (hcd : (y == ("__classdict__" : Str)) = false := by decide) : PEV X [] [i] false (.Name y pos) (fVar i) := by
  refine PE.imp (pe_var hN hv hd hcd) fun σ H Q h => ?_
  obtain ⟨Z, ρ, Fs, d, ρ', rel, hf, q⟩ := h
  unfold fVar at hf
  obtain ⟨d', hd', hf⟩ := Option.bind_eq_some_iff.mp hf
  cases hf
  obtain ⟨v, hs, r⟩ := rel.at_ i d (Env.at_some hd')
  exact ⟨v, hs, q v H Z Fs (Fs i) rel (Frm.refl _) ⟨r, fun j a h1 h2 => by rw [rel.dj i j a h1 h2]; exact List.mem_cons_self, fun h => (by cases h)⟩ fun h => (by cases h)⟩
theorem pev_chk (h : PEV X T O x e f) : PEV X T [] true e (chk f) := by
  refine PE.imp h fun σ H Q h => ?_
  obtain ⟨Z, ρ, Fs, d, ρ', rel, hf, q⟩ := h
  unfold chk at hf
  obtain ⟨p, hp, hf⟩ := Option.bind_eq_some_iff.mp hf
  split at hf
  · rename_i hn
    cases hf
    refine ⟨Z, ρ, Fs, d, ρ', rel, hp, fun v H' Z' Fs' F r' f' w cf => ?_⟩
    exact q v H' Z' Fs' [] r' f' (Val.imm w.r hn) Cf.nil
  · cases hf
theorem pev_val (i : Nat) {y : Str} (hN : X.N[i]? = some y := by rfl) (hv : Vis X.env.scope y := by first | exact Or.inl rfl | exact Or.inr (Or.inl rfl) | exact Or.inr (Or.inr rfl)) (hd : (y == ("__debug__" : Str)) = false := by decide)
    (hcd : (y == ("__classdict__" : Str)) = false := by decide) : PEV X [] [] true (.Name y pos) (fVal i) := by
  refine PE.imp (pev_chk (pev_var i hN hv hd hcd)) fun σ H Q h => ?_
  obtain ⟨Z, ρ, Fs, d, ρ', rel, hf, q⟩ := h
  refine ⟨Z, ρ, Fs, d, ρ', rel, ?_, q⟩
  unfold fVal at hf
  obtain ⟨d', hd', hf⟩ := Option.bind_eq_some_iff.mp hf
  unfold chk fVar
  rw [hd']
  split at hf
  · rename_i hn
    cases hf
    simp [hn]
  · cases hf
theorem Rel.drop {K : PySem.W.Frag} {Z : Addr → Prop} {ρ : Env} {σ : L2.St} {H : Hp} {Fs : Ft} (rel : Rel K Z ρ σ H Fs) (i : Nat) : Rel K Z (ρ.set i none) σ H (fun j => if j = i then [] else Fs j) := by
  refine ⟨fun j d e => ?_, fun j => ?_, fun j k a h1 h2 => ?_, fun j a h => ?_, rel.zt, fun j a h => ?_, by rw [List.length_set]; exact rel.len⟩
  · by_cases q : j = i
    · subst q
      by_cases hl : j < ρ.length
      · rw [List.getElem?_set_self hl] at e; cases e
      · rw [List.getElem?_eq_none (by simpa using hl)] at e; cases e
    · rw [List.getElem?_set_ne (Ne.symm q)] at e
      simp only [if_neg q]
      exact rel.at_ j d e
  · by_cases q : j = i
    · simp only [if_pos q]; exact List.nodup_nil
    · simp only [if_neg q]; exact rel.nd j
  · by_cases q : j = i
    · simp only [if_pos q] at h1; cases h1
    · by_cases p : k = i
      · simp only [if_pos p] at h2; cases h2
      · simp only [if_neg q] at h1
        simp only [if_neg p] at h2
        exact rel.dj j k a h1 h2
  · by_cases q : j = i
    · simp only [if_pos q] at h; cases h
    · simp only [if_neg q] at h; exact rel.nz j a h
  · by_cases q : j = i
    · simp only [if_pos q] at h; cases h
    · simp only [if_neg q] at h; exact rel.ft j a h
theorem Frm.drop {Z : Addr → Prop} {ρ : Env} {Fs : Ft} {H : Hp} (i : Nat) : Frm [i] Z ρ Fs H Z (ρ.set i none) (fun j => if j = i then [] else Fs j) H := by
  refine ⟨fun j hj => ?_, Keep.refl _ _, fun j hj a ha => ?_, fun a h => .inl h, fun a h => h, by rw [List.length_set]⟩
  · have q : j ≠ i := fun e => hj (by rw [e]; exact List.mem_cons_self)
    exact ⟨if_neg q, List.getElem?_set_ne (Ne.symm q)⟩
  · have e : j = i := by simpa using hj
    subst e
    simp at ha
/-- the slot gives its value away -/
theorem pev_mov (i : Nat) {y : Str} (hN : X.N[i]? = some y := by rfl) (hv : Vis X.env.scope y := by first | exact Or.inl rfl | exact Or.inr (Or.inl rfl) | exact Or.inr (Or.inr rfl)) (hd : (y == ("__debug__" : Str)) = false := by decide)
    (hcd : (y == ("__classdict__" : Str)) = false := by decide) : PEV X [i] [] true (.Name y pos) (fMov i) := by
  refine PE.imp (pe_var hN hv hd hcd) fun σ H Q h => ?_
  obtain ⟨Z, ρ, Fs, d, ρ', rel, hf, q⟩ := h
  unfold fMov at hf
  obtain ⟨d', hd', hf⟩ := Option.bind_eq_some_iff.mp hf
  cases hf
  obtain ⟨v, hs, r⟩ := rel.at_ i d (Env.at_some hd')
  refine ⟨v, hs, q v H Z _ (Fs i) (rel.drop i) (Frm.drop i) ⟨r, fun j a h1 h2 => ?_, fun _ => ⟨rel.nd i, fun a h => rel.nz i a h⟩⟩ fun _ a h => .inl ⟨i, List.mem_cons_self, h⟩⟩
  by_cases p : j = i
  · simp [p] at h2
  · simp only [if_neg p] at h2
    exact absurd (rel.dj i j a h1 h2).symm p
/-- the slot shares its value: it is frozen -/
theorem pev_ali (i : Nat) {y : Str} (hN : X.N[i]? = some y := by rfl) (hv : Vis X.env.scope y := by first | exact Or.inl rfl | exact Or.inr (Or.inl rfl) | exact Or.inr (Or.inr rfl)) (hd : (y == ("__debug__" : Str)) = false := by decide)
    (hcd : (y == ("__classdict__" : Str)) = false := by decide) : PEV X [i] [] true (.Name y pos) (fAli i) := by
  refine PE.imp (pe_var hN hv hd hcd) fun σ H Q h => ?_
  obtain ⟨Z, ρ, Fs, d, ρ', rel, hf, q⟩ := h
  unfold fAli at hf
  obtain ⟨d', hd', hf⟩ := Option.bind_eq_some_iff.mp hf
  have ha := Env.at_some hd'
  obtain ⟨v, hs, r⟩ := rel.at_ i d' ha
  refine ⟨v, hs, ?_⟩
  split at hf
  · rename_i hn
    cases hf
    have e := r.no hn
    exact q v H Z Fs [] rel (Frm.refl _) (Val.imm r hn) Cf.nil
  · cases hf
    have hl := Env.lt ha
    have r2 : R X.K (fun a => Z a ∨ a ∈ Fs i) H d'.frz v [] := r.freeze (fun _ h => .inl h) fun a h => .inr h
    refine q v H (fun a => Z a ∨ a ∈ Fs i) (fun j => if j = i then [] else Fs j) [] ⟨fun j d e => ?_, (rel.drop i).nd, (rel.drop i).dj, fun j a h z => ?_, fun a h => ?_, (rel.drop i).ft, by rw [List.length_set]; exact rel.len⟩
      ⟨fun j hj => ?_, Keep.refl _ _, fun j hj a h => ?_, fun a h => ?_, fun a h => .inl h, by rw [List.length_set]⟩ ⟨r2, fun j a h => (by cases h), fun _ => ⟨List.nodup_nil, fun a h => (by cases h)⟩⟩ Cf.nil
    · by_cases p : j = i
      · subst p
        rw [List.getElem?_set_self hl] at e
        cases e
        simp only [if_pos rfl]
        exact ⟨v, hs, r2⟩
      · rw [List.getElem?_set_ne (Ne.symm p)] at e
        simp only [if_neg p]
        obtain ⟨v', h1, h2⟩ := rel.at_ j d e
        exact ⟨v', h1, h2.keep (Keep.refl M0 H) (fun _ h => .inl h) (fun _ _ h => h) fun _ _ h => h⟩
    · by_cases p : j = i
      · simp [p] at h
      · simp only [if_neg p] at h
        rcases z with z | z
        · exact rel.nz j a h z
        · exact p (rel.dj j i a h z)
    · rcases h with h | h
      · exact rel.zt a h
      · exact rel.ft i a h
    · have p : j ≠ i := fun e => hj (by rw [e]; exact List.mem_cons_self)
      exact ⟨if_neg p, List.getElem?_set_ne (Ne.symm p)⟩
    · have e : j = i := by simpa using hj
      subst e
      simp at h
    · rcases h with h | h
      · exact .inl h
      · exact .inr (.inl ⟨i, List.mem_cons_self, h⟩)
end
end Vl

namespace Vl
open PySem PySem.Spec PyProof.Rows L2

/-- a two-place operation on data, its answer new -/
def OpS (K : PySem.W.Frag) (r : R2) (g : D → D → Option D) : Prop := ∀ (Z : Addr → Prop) (H : Hp) (d1 d2 : D) (v1 v2 : V) (F1 F2 : List Addr) (d : D) (Q : VK), R K Z H d1 v1 F1 → R K Z H d2 v2 F2 → g d1 d2 = some d →
  (∀ v H' F, Keep M0 H H' → R K Z H' d v F → F.Nodup → (∀ a ∈ F, H a = none) → Q v H') → r v1 v2 H Q
/-- its answer a part of the first -/
def OpW (K : PySem.W.Frag) (r : R2) (g : D → D → Option D) : Prop := ∀ (Z : Addr → Prop) (H : Hp) (d1 d2 : D) (v1 v2 : V) (F1 F2 : List Addr) (d : D) (Q : VK), R K Z H d1 v1 F1 → R K Z H d2 v2 F2 → g d1 d2 = some d →
  (∀ v H' F, Keep M0 H H' → R K Z H' d v F → (∀ a ∈ F, a ∈ F1) → Q v H') → r v1 v2 H Q
def UnS (K : PySem.W.Frag) (r : V → Hp → VK → Prop) (g : D → Option D) : Prop := ∀ (Z : Addr → Prop) (H : Hp) (d1 : D) (v1 : V) (F1 : List Addr) (d : D) (Q : VK), R K Z H d1 v1 F1 → g d1 = some d →
  (∀ v H' F, Keep M0 H H' → R K Z H' d v F → F.Nodup → (∀ a ∈ F, H a = none) → Q v H') → r v1 H Q
def ClS (K : PySem.W.Frag) (r : List V → Hp → VK → Prop) (g : List D → Option D) : Prop := ∀ (Z : Addr → Prop) (H : Hp) (ds : List D) (vs : List V) (F1 : List Addr) (d : D) (Q : VK), Rs K Z H ds vs F1 → g ds = some d →
  (∀ v H' F, Keep M0 H H' → R K Z H' d v F → F.Nodup → (∀ a ∈ F, H a = none) → Q v H') → r vs H Q

section
variable {K : PySem.W.Frag} {Z Z' Z1 Z2 : Addr → Prop} {ρ ρ' ρ1 ρ2 : Env} {Fs Fs' Fs1 Fs2 : Ft} {H H' H1 H2 : Hp} {T T1 T2 O O1 O2 : List Nat} {x : Bool} {d : D} {v : V} {F : List Addr} {σ : L2.St}
/-- a new value -/
theorem Val.new (rel : Rel K Z ρ σ H Fs) (r : R K Z H' d v F) (nd : F.Nodup) (nw : ∀ a ∈ F, H a = none) : Val K Z H' Fs [] true d v F :=
  ⟨r, fun j a h1 h2 => absurd (nw a h1) (rel.ft j a h2), fun _ => ⟨nd, fun a h z => rel.zt a z (nw a h)⟩⟩
theorem Cf.new {Fs0 : Ft} {H0 : Hp} {M : Addr → Prop} (k : Keep M H0 H) (nw : ∀ a ∈ F, H a = none) : Cf T Fs0 H0 x F := fun _ a h => .inr (k.back (nw a h))
theorem Cf.mono (h : Cf T Fs H x F) (i : ∀ j ∈ T, j ∈ T1) : Cf T1 Fs H x F := fun hx a ha => (h hx a ha).imp (fun ⟨j, hj, q⟩ => ⟨j, i j hj, q⟩) id
/-- a value that a second step made, told from the start -/
theorem Cf.late (f1 : Frm T1 Z ρ Fs H Z1 ρ1 Fs1 H1) (h : Cf T2 Fs1 H1 x F) : Cf (T1 ++ T2) Fs H x F := fun hx a ha => by
  rcases h hx a ha with ⟨j, hj, q⟩ | q
  · by_cases h1 : j ∈ T1
    · exact (f1.c1 j h1 a q).imp (fun ⟨i, hi, z⟩ => ⟨i, List.mem_append_left _ hi, z⟩) id
    · rw [(f1.sub j h1).1] at q
      exact .inl ⟨j, List.mem_append_right _ hj, q⟩
  · exact .inr (f1.keep.back q)
theorem Cf.early (h : Cf T1 Fs H x F) : Cf (T1 ++ T2) Fs H x F := h.mono fun j hj => List.mem_append_left _ hj
end

section
variable {X : Cx} {T T1 T2 T3 O O1 O2 O3 : List Nat} {x x1 x2 x3 : Bool} {a b c e : Expr} {es : List Expr} {fa fb fc f : M D} {fr : M (List D)} {pos : Pos} {r r' : R2} {g g' : D → D → Option D}
theorem tv_op (hs : OpS X.K r g) {σ : L2.St} {H : Hp} {Q : VK} (h : tV X.K (T1 ++ T2) [] true (fOp O1 T2 g fa fb) σ H Q) : tOp r (tV X.K T1 O1 x1 fa) (tV X.K T2 O2 x2 fb) σ H Q := by
  obtain ⟨Z, ρ, Fs, d, ρ', rel, hf, q⟩ := h
  unfold fOp at hf
  obtain ⟨⟨d1, ρ1⟩, h1, hf⟩ := Option.bind_eq_some_iff.mp hf
  obtain ⟨⟨d2, ρ2⟩, h2, hf⟩ := Option.bind_eq_some_iff.mp hf
  split at hf
  · rename_i hsf
    obtain ⟨d', h3, hf⟩ := Option.bind_eq_some_iff.mp hf
    cases hf
    refine ⟨Z, ρ, Fs, d1, ρ1, rel, h1, fun v1 H1 Z1 Fs1 F1 rel1 f1 w1 c1 => ?_⟩
    refine ⟨Z1, ρ1, Fs1, d2, _, rel1, h2, fun v2 H2 Z2 Fs2 F2 rel2 f2 w2 c2 => ?_⟩
    have w1' := w1.keep rel1 f2 hsf
    refine hs Z2 H2 d1 d2 v1 v2 F1 F2 _ Q w1'.r w2.r h3 fun v H' F k r nd nw => ?_
    have ff := (f1.trans f2)
    have f3 := ff.trans (Frm.pureT [] k)
    rw [List.append_nil] at f3
    exact q v H' Z2 Fs2 F (rel2.keep0 k) f3 (Val.new rel2 r nd nw) (Cf.new ff.keep nw)
  · cases hf
theorem pev_op {op : Operator} (ho : OpR X (binaryOp op) r) (hs : OpS X.K r g) (ha : PEV X T1 O1 x1 a fa) (hb : PEV X T2 O2 x2 b fb) : PEV X (T1 ++ T2) [] true (.BinOp a op b pos) (fOp O1 T2 g fa fb) :=
  PE.imp (pe_op ho ha hb) fun _ _ _ h => tv_op hs h
theorem pev_cmp {op : CmpOp} (ho : OpR X (compareOp op) r) (hs : OpS X.K r g) (ha : PEV X T1 O1 x1 a fa) (hb : PEV X T2 O2 x2 b fb) (hm : behindInMarks op b = false) : PEV X (T1 ++ T2) [] true (.Compare a [op] [b] pos) (fOp O1 T2 g fa fb) :=
  PE.imp (pe_cmpR ho ha hb hm) fun _ _ _ h => tv_op hs h
theorem pev_un {op : UnaryOp} {ru : V → Hp → VK → Prop} {gu : D → Option D} (ho : UnR X (unaryOp op) ru) (hs : UnS X.K ru gu) (ha : PEV X T O x a fa) : PEV X T [] true (.UnaryOp op a pos) (fUn gu fa) := by
  refine PE.imp (pe_un ho ha) fun σ H Q h => ?_
  obtain ⟨Z, ρ, Fs, d, ρ', rel, hf, q⟩ := h
  unfold fUn at hf
  obtain ⟨⟨d1, ρ1⟩, h1, hf⟩ := Option.bind_eq_some_iff.mp hf
  obtain ⟨d', h3, hf⟩ := Option.bind_eq_some_iff.mp hf
  cases hf
  refine ⟨Z, ρ, Fs, d1, _, rel, h1, fun v1 H1 Z1 Fs1 F1 rel1 f1 w1 c1 => ?_⟩
  refine hs Z1 H1 d1 v1 F1 _ Q w1.r h3 fun v H' F k r nd nw => ?_
  have f3 := f1.trans (Frm.pureT [] k)
  rw [List.append_nil] at f3
  exact q v H' Z1 Fs1 F (rel1.keep0 k) f3 (Val.new rel1 r nd nw) (Cf.new f1.keep nw)
/-- a part of a value -/
theorem tv_opW (hs : OpW X.K r g) {σ : L2.St} {H : Hp} {Q : VK} (h : tV X.K (T1 ++ T2) O1 false (fOp O1 T2 g fa fb) σ H Q) : tOp r (tV X.K T1 O1 x1 fa) (tV X.K T2 O2 x2 fb) σ H Q := by
  obtain ⟨Z, ρ, Fs, d, ρ', rel, hf, q⟩ := h
  unfold fOp at hf
  obtain ⟨⟨d1, ρ1⟩, h1, hf⟩ := Option.bind_eq_some_iff.mp hf
  obtain ⟨⟨d2, ρ2⟩, h2, hf⟩ := Option.bind_eq_some_iff.mp hf
  split at hf
  · rename_i hsf
    obtain ⟨d', h3, hf⟩ := Option.bind_eq_some_iff.mp hf
    cases hf
    refine ⟨Z, ρ, Fs, d1, ρ1, rel, h1, fun v1 H1 Z1 Fs1 F1 rel1 f1 w1 c1 => ?_⟩
    refine ⟨Z1, ρ1, Fs1, d2, _, rel1, h2, fun v2 H2 Z2 Fs2 F2 rel2 f2 w2 c2 => ?_⟩
    have w1' := w1.keep rel1 f2 hsf
    refine hs Z2 H2 d1 d2 v1 v2 F1 F2 _ Q w1'.r w2.r h3 fun v H' F k r sb => ?_
    have f3 := (f1.trans f2).trans (Frm.pureT [] k)
    rw [List.append_nil] at f3
    exact q v H' Z2 Fs2 F (rel2.keep0 k) f3 ⟨r, fun j a h1 h2 => w1'.ori j a (sb a h1) h2, fun h => (by cases h)⟩ fun h => (by cases h)
  · cases hf
theorem pev_ix {hr : IxR X r} (hs : OpW X.K r g) (ha : PEV X T1 O1 x1 a fa) (hb : PEV X T2 O2 x2 b fb) (hp : PlainIx b := by intro _ _; rfl) : PEV X (T1 ++ T2) O1 false (.Subscript a b pos) (fOp O1 T2 g fa fb) :=
  PE.imp (pe_ix hr ha hb hp) fun _ _ _ h => tv_opW hs h

/-! ### constants -/
theorem tv_c {K : PySem.W.Frag} {d : D} {v : V} (hr : ∀ Z H, R K Z H d v []) {σ : L2.St} {H : Hp} {Q : VK} (h : tV K [] [] true (fC d) σ H Q) : tC v σ H Q := by
  obtain ⟨Z, ρ, Fs, d', ρ', rel, hf, q⟩ := h
  cases hf
  exact q v H Z Fs [] rel (Frm.refl _) ⟨hr Z H, fun _ _ h => (by cases h), fun _ => ⟨List.nodup_nil, fun _ h => (by cases h)⟩⟩ Cf.nil
theorem pev_int {i : Int} {j} : PEV X [] [] true (.Constant (.int i) j pos) (fC (.int i)) := PE.imp pe_int fun _ _ _ h => tv_c (fun _ _ => .int i) h
theorem pev_bl {i : Bool} {j} : PEV X [] [] true (.Constant (.bool i) j pos) (fC (.bl i)) := PE.imp pe_bl fun _ _ _ h => tv_c (fun _ _ => .bl i) h
theorem pev_non {j} : PEV X [] [] true (.Constant .none j pos) (fC .non) := PE.imp pe_non fun _ _ _ h => tv_c (fun _ _ => .non) h
theorem pev_str {i : Str} {j} : PEV X [] [] true (.Constant (.str i) j pos) (fC (.str i)) := PE.imp pe_str fun _ _ _ h => tv_c (fun _ _ => .str i) h
/-- data that a module's name holds -/
def GD (K : PySem.W.Frag) (u : Value) (d : D) : Prop := ∃ v, RelV v u ∧ ∀ Z H, R K Z H d v []
theorem pev_glob {y : Str} {u : Value} {d : D} (hg : Gl X y) (hm : X.mg y = some u) (g : GD X.K u d) (hd : (y == ("__debug__" : Str)) = false := by decide) : PEV X [] [] true (.Name y pos) (fC d) := by
  obtain ⟨v, rv, hr⟩ := g
  exact PE.imp (pe_glob hg hm rv hd) fun _ _ _ h => tv_c hr h

/-! ### arguments, displays -/
theorem pav_nil : PAV X [] [] x [] fNil := by
  refine PA.imp pa_nil fun σ H Q h => ?_
  obtain ⟨Z, ρ, Fs, ds, ρ', rel, hf, q⟩ := h
  cases hf
  exact q [] H Z Fs [] rel (Frm.refl _) ⟨.nil, fun _ _ h => (by cases h), fun _ => ⟨List.nodup_nil, fun _ h => (by cases h)⟩⟩ Cf.nil
theorem tv_cons (hx : x = true → x1 = true ∧ O1 = [] ∧ x2 = true) {σ : L2.St} {H : Hp} {Q : List V → Hp → Prop} (h : tVL X.K (T1 ++ T2) (O1 ++ O2) x (fCons O1 T2 fa fr) σ H Q) : tCons (tV X.K T1 O1 x1 fa) (tVL X.K T2 O2 x2 fr) σ H Q := by
  obtain ⟨Z, ρ, Fs, ds, ρ', rel, hf, q⟩ := h
  unfold fCons at hf
  obtain ⟨⟨d1, ρ1⟩, h1, hf⟩ := Option.bind_eq_some_iff.mp hf
  obtain ⟨⟨d2, ρ2⟩, h2, hf⟩ := Option.bind_eq_some_iff.mp hf
  split at hf
  · rename_i hsf
    cases hf
    refine ⟨Z, ρ, Fs, d1, ρ1, rel, h1, fun v1 H1 Z1 Fs1 F1 rel1 f1 w1 c1 => ?_⟩
    refine ⟨Z1, ρ1, Fs1, d2, _, rel1, h2, fun vs H2 Z2 Fs2 F2 rel2 f2 w2 c2 => ?_⟩
    have w1' := w1.keep rel1 f2 hsf
    refine q (v1 :: vs) H2 Z2 Fs2 (F1 ++ F2) rel2 (f1.trans f2) ⟨.cons w1'.r w2.r, fun j a h1 h2 => ?_, fun h => ?_⟩ fun h a ha => ?_
    · rcases List.mem_append.mp h1 with h1 | h1
      · exact List.mem_append_left _ (w1'.ori j a h1 h2)
      · exact List.mem_append_right _ (w2.ori j a h1 h2)
    · obtain ⟨e1, e2, e3⟩ := hx h
      refine ⟨List.nodup_append.mpr ⟨(w1'.exc e1).1, (w2.exc e3).1, fun a h1 b h2 e => ?_⟩, fun a ha => ?_⟩
      · subst e
        rcases c2 e3 a h2 with ⟨j, hj, z⟩ | z
        · have := w1.ori j a h1 z
          rw [e2] at this
          cases this
        · exact w1.r.tr a h1 z
      · rcases List.mem_append.mp ha with ha | ha
        · exact (w1'.exc e1).2 a ha
        · exact (w2.exc e3).2 a ha
    · obtain ⟨e1, e2, e3⟩ := hx h
      rcases List.mem_append.mp ha with ha | ha
      · exact c1.early e1 a ha
      · exact c2.late f1 e3 a ha
  · cases hf
/-- .. seen -/
theorem pav_cons (ha : PEV X T1 O1 x1 e fa) (hr : PAV X T2 O2 x2 es fr) (hs : starEach (e :: es) X.env = (false, eval e X.env) :: starEach es X.env := by rfl) : PAV X (T1 ++ T2) (O1 ++ O2) false (e :: es) (fCons O1 T2 fa fr) :=
  PA.imp (pa_cons ha hr hs) fun _ _ _ h => tv_cons (fun h => (by cases h)) h
/-- .. held -/
theorem pav_consX (ha : PEV X T1 [] true e fa) (hr : PAV X T2 [] true es fr) (hs : starEach (e :: es) X.env = (false, eval e X.env) :: starEach es X.env := by rfl) : PAV X (T1 ++ T2) [] true (e :: es) (fCons [] T2 fa fr) :=
  PA.imp (pa_cons ha hr hs) fun σ H Q h => tv_cons (O1 := []) (O2 := []) (x := true) (fun _ => ⟨rfl, rfl, rfl⟩) h
def szOk (n : Nat) : Bool := decide (n ≤ 100000)
theorem sz_of {n : Nat} (h : szOk n = true) : n ≤ sizeLine := Nat.le_trans (of_decide_eq_true h) (by decide)
theorem sz_lt {n : Nat} (h : szOk n = true) : n < sizeLine := Nat.lt_of_le_of_lt (of_decide_eq_true h) (by decide)
def fTup (fr : M (List D)) : M D := fun ρ => (fr ρ).bind fun p => if szOk p.1.length = true then some (.tup p.1, p.2) else none
def fLst (fr : M (List D)) : M D := fun ρ => (fr ρ).bind fun p => if szOk p.1.length = true then some (.lst true p.1, p.2) else none
theorem pev_tup {k} (h : PAV X T [] true es fr) : PEV X T [] true (.Tuple es k pos) (fTup fr) := by
  refine PE.imp (pe_tup h) fun σ H Q h => ?_
  obtain ⟨Z, ρ, Fs, d, ρ', rel, hf, q⟩ := h
  unfold fTup at hf
  obtain ⟨⟨ds, ρ1⟩, h1, hf⟩ := Option.bind_eq_some_iff.mp hf
  split at hf
  · rename_i hz
    cases hf
    refine ⟨Z, ρ, Fs, ds, _, rel, h1, fun vs H1 Z1 Fs1 F1 rel1 f1 w1 c1 => ⟨by rw [← w1.r.length]; exact sz_of hz, fun p hp => ?_⟩⟩
    have k : Keep M0 H1 (upd H1 p (.tup vs)) := Keep.new hp
    have f3 := f1.trans (Frm.pureT [] k)
    rw [List.append_nil] at f3
    exact q (.ref p) _ Z1 Fs1 F1 (rel1.keep0 k) f3 ⟨.tup upd_same (w1.r.keep k (fun _ h => h) (fun _ _ h => h) fun _ _ h => h), w1.ori, w1.exc⟩ c1
  · cases hf
theorem pev_lst (h : PAV X T [] true es fr) : PEV X T [] true (.List es pos) (fLst fr) := by
  refine PE.imp (pe_lst h) fun σ H Q h => ?_
  obtain ⟨Z, ρ, Fs, d, ρ', rel, hf, q⟩ := h
  unfold fLst at hf
  obtain ⟨⟨ds, ρ1⟩, h1, hf⟩ := Option.bind_eq_some_iff.mp hf
  split at hf
  · rename_i hz
    cases hf
    refine ⟨Z, ρ, Fs, ds, _, rel, h1, fun vs H1 Z1 Fs1 F1 rel1 f1 w1 c1 => ⟨by rw [← w1.r.length]; exact sz_of hz, fun p hp => ?_⟩⟩
    have k : Keep M0 H1 (upd H1 p (.lst vs)) := Keep.new hp
    have f3 := f1.trans (Frm.pureT [] k)
    rw [List.append_nil] at f3
    have np : p ∉ F1 := fun z => w1.r.tr p z hp
    refine q (.ref p) _ Z1 Fs1 (p :: F1) (rel1.keep0 k) f3 ⟨.own upd_same (w1.r.keep k (fun _ h => h) (fun _ _ h => h) fun _ _ h => h), fun j a h1 h2 => ?_, fun h => ⟨List.nodup_cons.mpr ⟨np, (w1.exc h).1⟩, fun a h1 => ?_⟩⟩ fun h a h1 => ?_
    · rcases List.mem_cons.mp h1 with e | h1
      · subst e; exact absurd hp (rel1.ft j _ h2)
      · exact w1.ori j a h1 h2
    · rcases List.mem_cons.mp h1 with e | h1
      · subst e; exact fun z => rel1.zt _ z hp
      · exact (w1.exc h).2 a h1
    · rcases List.mem_cons.mp h1 with e | h1
      · subst e; exact .inr (f1.keep.back hp)
      · exact c1 h a h1
  · cases hf
end
end Vl

namespace Vl
open PySem PySem.Spec PyProof.Rows L2

/-! ### tests -/
def fB (f : M D) : M Bool := fun ρ => (f ρ).bind fun p => match p.1 with
  | .bl b => some (b, p.2)
  | _ => none
def truth : D → Option Bool
  | .non => some false
  | .bl b => some b
  | .int i => some (i != 0)
  | .str s => if szOk s.length = true then some ((s.length : Int) != 0) else none
  | .tup l => some (!l.isEmpty)
  | .lst _ l => some (!l.isEmpty)
  | .dct o t l => if (o && !t) = true then some (!l.isEmpty) else none
  | .scr l => some (!l.isEmpty)
  | .xt _ => none
def fTr (f : M D) : M Bool := fun ρ => (f ρ).bind fun p => (truth p.1).bind fun b => some (b, p.2)
def fAnd (fa fb : M Bool) : M Bool := fun ρ => (fa ρ).bind fun p => if p.1 = true then fb p.2 else some (false, p.2)
def fOr (fa fb : M Bool) : M Bool := fun ρ => (fa ρ).bind fun p => if p.1 = true then some (true, p.2) else fb p.2
def fNot (fa : M Bool) : M Bool := fun ρ => (fa ρ).bind fun p => some (!p.1, p.2)
def fIf (ft : M Bool) (fa fb : M D) : M D := fun ρ => (ft ρ).bind fun p => if p.1 = true then fa p.2 else fb p.2
def fAndV (fa fb : M D) : M D := fun ρ => (fB fa ρ).bind fun p => if p.1 = true then fb p.2 else some (.bl false, p.2)
def fOrV (fa fb : M D) : M D := fun ρ => (fB fa ρ).bind fun p => if p.1 = true then some (.bl true, p.2) else fb p.2
def fNotV (fa : M D) : M D := fun ρ => (fB fa ρ).bind fun p => some (.bl (!p.1), p.2)
def fChain (O1 T2 O2 T3 : List Nat) (g g' : D → D → Option D) (fa fb fc : M D) : M D := fun ρ => (fa ρ).bind fun p => (fb p.2).bind fun q => if safe O1 T2 p.1 = true then (g p.1 q.1).bind fun z => match z with
    | .bl true => (fc q.2).bind fun w => if safe O2 T3 q.1 = true then (g' q.1 w.1).bind fun d => some (d, w.2) else none
    | .bl false => some (.bl false, q.2)
    | _ => none
  else none

section
variable {X : Cx} {T T1 T2 T3 O O1 O2 O3 : List Nat} {x x1 x2 x3 : Bool} {a b c e : Expr} {es rest : List Expr} {fa fb fc f : M D} {ft fu : M Bool} {fr : M (List D)} {pos : Pos} {r r' : R2} {g g' : D → D → Option D}
theorem R.bl_inv {K : PySem.W.Frag} {Z : Addr → Prop} {H : Hp} {b : Bool} {v : V} {F : List Addr} (r : R K Z H (.bl b) v F) : v = .bl b := by
  cases r
  rfl
theorem R.int_inv {K : PySem.W.Frag} {Z : Addr → Prop} {H : Hp} {b : Int} {v : V} {F : List Addr} (r : R K Z H (.int b) v F) : v = .int b := by
  cases r
  rfl
theorem R.str_inv {K : PySem.W.Frag} {Z : Addr → Prop} {H : Hp} {b : Str} {v : V} {F : List Addr} (r : R K Z H (.str b) v F) : v = .str b := by
  cases r
  rfl
theorem R.non_inv {K : PySem.W.Frag} {Z : Addr → Prop} {H : Hp} {v : V} {F : List Addr} (r : R K Z H .non v F) : v = .non := by
  cases r
  rfl
theorem tvt_of {t : TE} (ht : ∀ σ H Q, tV X.K T O x f σ H Q → t σ H Q) {σ : L2.St} {H : Hp} {Q : Bool → Hp → Prop} (h : tVT X.K T (fB f) σ H Q) : tTest t σ H Q := by
  obtain ⟨Z, ρ, Fs, b, ρ', rel, hf, q⟩ := h
  unfold fB at hf
  obtain ⟨⟨d, ρ1⟩, h1, hf⟩ := Option.bind_eq_some_iff.mp hf
  split at hf
  · rename_i b' e
    cases hf
    refine ht σ H _ ⟨Z, ρ, Fs, d, _, rel, h1, fun v H' Z' Fs' F r' f' w c => ?_⟩
    have e : d = .bl b := e
    subst e
    exact ⟨b, w.r.bl_inv, q H' Z' Fs' r' f'⟩
  · cases hf
theorem ptv_cmp {op : CmpOp} (ho : OpR X (compareOp op) r) (hs : OpS X.K r g) (ha : PEV X T1 O1 x1 a fa) (hb : PEV X T2 O2 x2 b fb) (hm : behindInMarks op b = false) : PTV X (T1 ++ T2) (.Compare a [op] [b] pos) (fB (fOp O1 T2 g fa fb)) :=
  PT.imp (pt_cmpR ho ha hb hm) fun σ H Q h => tvt_of (fun _ _ _ h => tv_op hs h) h
theorem ptv_val (h : PEV X T O x e f) (he : ∀ whole, isTrue e X.env whole = (do let v ← whole; standAt e.pos; holding [v] (truthy v)) := by intro _; rfl) : PTV X T e (fB f) :=
  PT.imp (pt_val h he) fun σ H Q h => tvt_of (t := tV X.K T O x f) (fun _ _ _ h => h) h
theorem R.truth {K : PySem.W.Frag} {Z : Addr → Prop} {H : Hp} {d : D} {v : V} {F : List Addr} {k : Bool} (r : R K Z H d v F) (h : truth d = some k) : TruV K v H k := by
  cases r with
  | xt _ _ _ _ => cases h
  | non => cases h; rfl
  | bl b => cases h; rfl
  | int i => cases h; rfl
  | str s =>
    simp only [Vl.truth] at h
    split at h
    · rename_i hz
      cases h
      exact ⟨sz_of hz, rfl⟩
    · cases h
  | tup h1 h2 =>
    cases h
    refine .inr (.inl ⟨_, SqT.of h1, ?_⟩)
    have e := h2.length
    cases h2 with
    | nil => rfl
    | cons _ _ => rfl
  | own h1 h2 =>
    cases h
    refine .inl ⟨_, SqL.of h1, ?_⟩
    cases h2 with
    | nil => rfl
    | cons _ _ => rfl
  | fzn h1 z h2 =>
    cases h
    refine .inl ⟨_, SqL.of h1, ?_⟩
    generalize hG : ([] : List Addr) = G at h2
    cases h2 with
    | nil => rfl
    | cons _ _ => rfl
  | knw h1 h2 =>
    cases h
    refine .inl ⟨_, h1.l, ?_⟩
    generalize hG : ([] : List Addr) = G at h2
    cases h2 with
    | nil => rfl
    | cons _ _ => rfl
  | dow h1 h2 =>
    rename_i a t vs kvs F
    simp only [Vl.truth] at h
    split at h
    · rename_i ht
      cases h
      cases t with
      | true => cases ht
      | false =>
        obtain ⟨o, e, ks, e1, e2, e3⟩ := h1
        subst e1
        refine .inr (.inr ⟨ks, e, ?_⟩)
        cases kvs with
        | nil =>
          cases ks with
          | nil => rfl
          | cons _ _ => cases e2
        | cons _ _ =>
          cases ks with
          | nil => cases e2
          | cons _ _ => rfl
    · cases h
  | dfz h1 z h2 => simp [Vl.truth] at h
  | dlk h1 h2 => simp [Vl.truth] at h
theorem ptv_tr (h : PEV X T O x e f) (he : ∀ whole, isTrue e X.env whole = (do let v ← whole; standAt e.pos; holding [v] (truthy v)) := by intro _; rfl) : PTV X T e (fTr f) := by
  refine PT.imp (pt_truth h he) fun σ H Q h => ?_
  obtain ⟨Z, ρ, Fs, b, ρ', rel, hf, q⟩ := h
  unfold fTr at hf
  obtain ⟨⟨d, ρ1⟩, h1, hf⟩ := Option.bind_eq_some_iff.mp hf
  obtain ⟨k, h2, hf⟩ := Option.bind_eq_some_iff.mp hf
  cases hf
  exact ⟨Z, ρ, Fs, d, _, rel, h1, fun v H' Z' Fs' F r' f' w c => ⟨_, w.r.truth h2, q H' Z' Fs' r' f'⟩⟩
abbrev PWV (X : Cx) (T : List Nat) (e : Expr) (f : M Bool) : Prop := PW X e (tVT X.K T f)
theorem pwv_and1 (ha : PTV X T a ft) : PWV X T (.BoolOp .And [a] pos) ft := pw_and1 ha
theorem pwv_or1 (ha : PTV X T a ft) : PWV X T (.BoolOp .Or [a] pos) ft := pw_or1 ha
theorem pwv_and (ha : PTV X T1 a ft) (hb : PWV X T2 (.BoolOp .And (b :: rest) pos) fu) : PWV X (T1 ++ T2) (.BoolOp .And (a :: b :: rest) pos) (fAnd ft fu) := by
  refine PW.imp (pw_and ha hb) fun σ H Q h => ?_
  obtain ⟨Z, ρ, Fs, k, ρ', rel, hf, q⟩ := h
  unfold fAnd at hf
  obtain ⟨⟨c, ρ1⟩, h1, hf⟩ := Option.bind_eq_some_iff.mp hf
  refine ⟨Z, ρ, Fs, c, ρ1, rel, h1, fun H1 Z1 Fs1 rel1 f1 => ?_⟩
  cases c with
  | true => exact ⟨Z1, ρ1, Fs1, k, ρ', rel1, hf, fun H2 Z2 Fs2 rel2 f2 => q H2 Z2 Fs2 rel2 (f1.trans f2)⟩
  | false =>
    cases hf
    exact q H1 Z1 Fs1 rel1 (f1.mono fun j hj => List.mem_append_left _ hj)
theorem pwv_or (ha : PTV X T1 a ft) (hb : PWV X T2 (.BoolOp .Or (b :: rest) pos) fu) : PWV X (T1 ++ T2) (.BoolOp .Or (a :: b :: rest) pos) (fOr ft fu) := by
  refine PW.imp (pw_or ha hb) fun σ H Q h => ?_
  obtain ⟨Z, ρ, Fs, k, ρ', rel, hf, q⟩ := h
  unfold fOr at hf
  obtain ⟨⟨c, ρ1⟩, h1, hf⟩ := Option.bind_eq_some_iff.mp hf
  refine ⟨Z, ρ, Fs, c, ρ1, rel, h1, fun H1 Z1 Fs1 rel1 f1 => ?_⟩
  cases c with
  | false => exact ⟨Z1, ρ1, Fs1, k, ρ', rel1, hf, fun H2 Z2 Fs2 rel2 f2 => q H2 Z2 Fs2 rel2 (f1.trans f2)⟩
  | true =>
    cases hf
    exact q H1 Z1 Fs1 rel1 (f1.mono fun j hj => List.mem_append_left _ hj)
theorem ptv_w (h : PWV X T e ft) : PTV X T e ft := h.pt
theorem ptv_not (ha : PTV X T a ft) : PTV X T (.UnaryOp .Not a pos) (fNot ft) := by
  refine PT.imp (pt_not ha) fun σ H Q h => ?_
  obtain ⟨Z, ρ, Fs, k, ρ', rel, hf, q⟩ := h
  unfold fNot at hf
  obtain ⟨⟨c, ρ1⟩, h1, hf⟩ := Option.bind_eq_some_iff.mp hf
  cases hf
  exact ⟨Z, ρ, Fs, c, _, rel, h1, fun H1 Z1 Fs1 rel1 f1 => q H1 Z1 Fs1 rel1 f1⟩
/-! ### bools as values -/
theorem pev_one {op} (h : PEV X T O x a f) : PEV X T O x (.BoolOp op [a] pos) f := pe_one h
theorem tv_b {σ : L2.St} {H : Hp} {Q : V → Hp → Prop} {Z : Addr → Prop} {ρ ρ1 : Env} {Fs : Ft} {c : Bool} (rel : Rel X.K Z ρ σ H Fs) (h1 : fB f ρ = some (c, ρ1))
    (q : ∀ H1 Z1 Fs1, Rel X.K Z1 ρ1 σ H1 Fs1 → Frm T Z ρ Fs H Z1 ρ1 Fs1 H1 → Q (.bl c) H1) : tV X.K T O x f σ H Q := by
  unfold fB at h1
  obtain ⟨⟨d, ρ2⟩, h0, h1⟩ := Option.bind_eq_some_iff.mp h1
  split at h1
  · rename_i b' e
    cases h1
    refine ⟨Z, ρ, Fs, d, _, rel, h0, fun v H' Z' Fs' F r' f' w cc => ?_⟩
    have e : d = .bl c := e
    subst e
    rw [w.r.bl_inv]
    exact q H' Z' Fs' r' f'
  · cases h1
theorem pev_and (ha : PEV X T1 O1 x1 a fa) (hb : PEV X T2 O2 x2 (.BoolOp .And (b :: rest) pos) fb) : PEV X (T1 ++ T2) O2 x2 (.BoolOp .And (a :: b :: rest) pos) (fAndV fa fb) := by
  refine PE.imp (pe_and ha hb) fun σ H Q h => ?_
  obtain ⟨Z, ρ, Fs, d, ρ', rel, hf, q⟩ := h
  unfold fAndV at hf
  obtain ⟨⟨c, ρ1⟩, h1, hf⟩ := Option.bind_eq_some_iff.mp hf
  refine tv_b rel h1 fun H1 Z1 Fs1 rel1 f1 => ⟨c, rfl, ?_⟩
  cases c with
  | true => exact ⟨Z1, ρ1, Fs1, d, ρ', rel1, hf, fun v H2 Z2 Fs2 F rel2 f2 w cc => q v H2 Z2 Fs2 F rel2 (f1.trans f2) w (cc.late f1)⟩
  | false =>
    cases hf
    exact q _ H1 Z1 Fs1 [] rel1 (f1.mono fun j hj => List.mem_append_left _ hj) ⟨.bl false, fun _ _ h => (by cases h), fun _ => ⟨List.nodup_nil, fun _ h => (by cases h)⟩⟩ Cf.nil
theorem pev_or (ha : PEV X T1 O1 x1 a fa) (hb : PEV X T2 O2 x2 (.BoolOp .Or (b :: rest) pos) fb) : PEV X (T1 ++ T2) O2 x2 (.BoolOp .Or (a :: b :: rest) pos) (fOrV fa fb) := by
  refine PE.imp (pe_or ha hb) fun σ H Q h => ?_
  obtain ⟨Z, ρ, Fs, d, ρ', rel, hf, q⟩ := h
  unfold fOrV at hf
  obtain ⟨⟨c, ρ1⟩, h1, hf⟩ := Option.bind_eq_some_iff.mp hf
  refine tv_b rel h1 fun H1 Z1 Fs1 rel1 f1 => ⟨c, rfl, ?_⟩
  cases c with
  | false => exact ⟨Z1, ρ1, Fs1, d, ρ', rel1, hf, fun v H2 Z2 Fs2 F rel2 f2 w cc => q v H2 Z2 Fs2 F rel2 (f1.trans f2) w (cc.late f1)⟩
  | true =>
    cases hf
    exact q _ H1 Z1 Fs1 [] rel1 (f1.mono fun j hj => List.mem_append_left _ hj) ⟨.bl true, fun _ _ h => (by cases h), fun _ => ⟨List.nodup_nil, fun _ h => (by cases h)⟩⟩ Cf.nil
theorem pev_not (ha : PEV X T O x a fa) : PEV X T [] true (.UnaryOp .Not a pos) (fNotV fa) := by
  refine PE.imp (pe_not ha) fun σ H Q h => ?_
  obtain ⟨Z, ρ, Fs, d, ρ', rel, hf, q⟩ := h
  unfold fNotV at hf
  obtain ⟨⟨c, ρ1⟩, h1, hf⟩ := Option.bind_eq_some_iff.mp hf
  cases hf
  exact tv_b rel h1 fun H1 Z1 Fs1 rel1 f1 => ⟨c, rfl, q _ H1 Z1 Fs1 [] rel1 f1 ⟨.bl _, fun _ _ h => (by cases h), fun _ => ⟨List.nodup_nil, fun _ h => (by cases h)⟩⟩ Cf.nil⟩
theorem pev_if (hc : PTV X T1 c ft) (ha : PEV X T2 O2 x2 a fa) (hb : PEV X T3 O3 x3 b fb) : PEV X (T1 ++ (T2 ++ T3)) (O2 ++ O3) (x2 && x3) (.IfExp c a b pos) (fIf ft fa fb) := by
  refine PE.imp (pe_ifExp hc ha hb) fun σ H Q h => ?_
  obtain ⟨Z, ρ, Fs, d, ρ', rel, hf, q⟩ := h
  unfold fIf at hf
  obtain ⟨⟨k, ρ1⟩, h1, hf⟩ := Option.bind_eq_some_iff.mp hf
  refine ⟨Z, ρ, Fs, k, ρ1, rel, h1, fun H1 Z1 Fs1 rel1 f1 => ?_⟩
  cases k with
  | true =>
    refine ⟨Z1, ρ1, Fs1, d, ρ', rel1, hf, fun v H2 Z2 Fs2 F rel2 f2 w cc => q v H2 Z2 Fs2 F rel2 (f1.trans (f2.mono fun j hj => List.mem_append_left _ hj)) ⟨w.r, fun j a h1 h2 => List.mem_append_left _ (w.ori j a h1 h2), fun h => w.exc ?_⟩ fun h => ?_⟩
    · rw [Bool.and_eq_true] at h; exact h.1
    · rw [Bool.and_eq_true] at h
      exact Cf.late f1 (cc.mono fun j hj => List.mem_append_left T3 hj) h.1
  | false =>
    refine ⟨Z1, ρ1, Fs1, d, ρ', rel1, hf, fun v H2 Z2 Fs2 F rel2 f2 w cc => q v H2 Z2 Fs2 F rel2 (f1.trans (f2.mono fun j hj => List.mem_append_right _ hj)) ⟨w.r, fun j a h1 h2 => List.mem_append_right _ (w.ori j a h1 h2), fun h => w.exc ?_⟩ fun h => ?_⟩
    · rw [Bool.and_eq_true] at h; exact h.2
    · rw [Bool.and_eq_true] at h
      exact Cf.late f1 (cc.mono fun j hj => List.mem_append_right T2 hj) h.2
/-! ### a < b < c -/
theorem tv_chain (hs : OpS X.K r g) (hs' : OpS X.K r' g') {σ : L2.St} {H : Hp} {Q : VK} (h : tV X.K (T1 ++ (T2 ++ T3)) [] true (fChain O1 T2 O2 T3 g g' fa fb fc) σ H Q) : tChain r r' (tV X.K T1 O1 x1 fa) (tV X.K T2 O2 x2 fb) (tV X.K T3 O3 x3 fc) σ H Q := by
  obtain ⟨Z, ρ, Fs, d, ρ', rel, hf, q⟩ := h
  unfold fChain at hf
  obtain ⟨⟨d1, ρ1⟩, h1, hf⟩ := Option.bind_eq_some_iff.mp hf
  obtain ⟨⟨d2, ρ2⟩, h2, hf⟩ := Option.bind_eq_some_iff.mp hf
  split at hf
  · rename_i hsf
    obtain ⟨z, h3, hf⟩ := Option.bind_eq_some_iff.mp hf
    refine ⟨Z, ρ, Fs, d1, ρ1, rel, h1, fun v1 H1 Z1 Fs1 F1 rel1 f1 w1 c1 => ?_⟩
    refine ⟨Z1, ρ1, Fs1, d2, _, rel1, h2, fun v2 H2 Z2 Fs2 F2 rel2 f2 w2 c2 => ?_⟩
    have w1' := w1.keep rel1 f2 hsf
    refine hs Z2 H2 d1 d2 v1 v2 F1 F2 _ _ w1'.r w2.r h3 fun v H3 F k rz nd nw => ?_
    have f12 := f1.trans f2
    split at hf
    · obtain ⟨⟨d3, ρ3⟩, h4, hf⟩ := Option.bind_eq_some_iff.mp hf
      split at hf
      · rename_i hsf2
        obtain ⟨d', h5, hf⟩ := Option.bind_eq_some_iff.mp hf
        cases hf
        refine ⟨true, rz.bl_inv, ?_⟩
        rw [if_pos rfl]
        have rel3 := rel2.keep0 k
        refine ⟨Z2, ρ2, Fs2, d3, _, rel3, h4, fun v3 H4 Z4 Fs4 F4 rel4 f4 w4 c4 => ?_⟩
        have w2' : Val X.K Z2 H3 Fs2 O2 x2 d2 v2 F2 := ⟨w2.r.keep k (fun _ h => h) (fun _ _ h => h) fun _ _ h => h, w2.ori, w2.exc⟩
        have w2'' := w2'.keep rel3 f4 hsf2
        refine hs' Z4 H4 d2 d3 v2 v3 F2 F4 _ Q w2''.r w4.r h5 fun v H' F k' r' nd nw => ?_
        have fa := (f12.trans ((Frm.pureT [] k).trans f4))
        have fb := fa.trans (Frm.pureT [] k')
        rw [List.nil_append, List.append_nil, List.append_assoc] at fb
        rw [List.nil_append, List.append_assoc] at fa
        exact q v H' Z4 Fs4 F (rel4.keep0 k') fb (Val.new rel4 r' nd nw) (Cf.new fa.keep nw)
      · cases hf
    · cases hf
      refine ⟨false, rz.bl_inv, ?_⟩
      rw [if_neg Bool.false_ne_true]
      have fb := f12.trans (Frm.pureT T3 k)
      rw [List.append_assoc] at fb
      exact q _ H3 Z2 Fs2 [] (rel2.keep0 k) fb ⟨.bl false, fun _ _ h => (by cases h), fun _ => ⟨List.nodup_nil, fun _ h => (by cases h)⟩⟩ Cf.nil
    · cases hf
  · cases hf
theorem pev_chain {op op' : CmpOp} (ho : OpR X (compareOp op) r) (hs : OpS X.K r g) (ho' : OpR X (compareOp op') r') (hs' : OpS X.K r' g') (ha : PEV X T1 O1 x1 a fa) (hb : PEV X T2 O2 x2 b fb) (hc : PEV X T3 O3 x3 c fc)
    (hm : lastMarks [op, op'] [b, c] = false := by with_unfolding_all rfl) : PEV X (T1 ++ (T2 ++ T3)) [] true (.Compare a [op, op'] [b, c] pos) (fChain O1 T2 O2 T3 g g' fa fb fc) :=
  PE.imp (pe_chain ho ho' ha hb hc hm) fun _ _ _ h => tv_chain hs hs' h
theorem ptv_chain {op op' : CmpOp} (ho : OpR X (compareOp op) r) (hs : OpS X.K r g) (ho' : OpR X (compareOp op') r') (hs' : OpS X.K r' g') (ha : PEV X T1 O1 x1 a fa) (hb : PEV X T2 O2 x2 b fb) (hc : PEV X T3 O3 x3 c fc)
    (hm : lastMarks [op, op'] [b, c] = false := by with_unfolding_all rfl) : PTV X (T1 ++ (T2 ++ T3)) (.Compare a [op, op'] [b, c] pos) (fB (fChain O1 T2 O2 T3 g g' fa fb fc)) :=
  PT.imp (pt_chain ho ho' ha hb hc hm) fun σ H Q h => tvt_of (fun _ _ _ h => tv_chain hs hs' h) h

/-! ### built-in calls -/
def fCl (g : List D → Option D) (fr : M (List D)) : M D := fun ρ => (fr ρ).bind fun p => (g p.1).bind fun d => some (d, p.2)
theorem tv_cl {rc : List V → Hp → VK → Prop} {gc : List D → Option D} (hs : ClS X.K rc gc) {σ : L2.St} {H : Hp} {Q : VK} (h : tV X.K T [] true (fCl gc fr) σ H Q) : tCB rc (tVL X.K T O x fr) σ H Q := by
  obtain ⟨Z, ρ, Fs, d, ρ', rel, hf, q⟩ := h
  unfold fCl at hf
  obtain ⟨⟨ds, ρ1⟩, h1, hf⟩ := Option.bind_eq_some_iff.mp hf
  obtain ⟨d', h3, hf⟩ := Option.bind_eq_some_iff.mp hf
  cases hf
  refine ⟨Z, ρ, Fs, ds, _, rel, h1, fun vs H1 Z1 Fs1 F1 rel1 f1 w1 c1 => ?_⟩
  refine hs Z1 H1 ds vs F1 _ Q w1.r h3 fun v H' F k r nd nw => ?_
  have f3 := f1.trans (Frm.pureT [] k)
  rw [List.append_nil] at f3
  exact q v H' Z1 Fs1 F (rel1.keep0 k) f3 (Val.new rel1 r nd nw) (Cf.new f1.keep nw)
theorem pev_callB {id : String} {y : Str} {p : Pos} {rc : List V → Hp → VK → Prop} {gc : List D → Option D} (hc : CallR X (.builtin id) rc) (hs : ClS X.K rc gc) (hg : Gl X y) (hm : X.mg y = none) (hv : bootBuiltins y = some (.builtin id)) (ha : PAV X T O x (e :: es) fr)
    (hn : y ≠ "__name__" := by decide) (hdb : (y == ("__debug__" : Str)) = false := by decide) (he : starEach (e :: es) X.env = (false, eval e X.env) :: starEach es X.env := by rfl) (hpl : (backTo pos (starEach es X.env)).any (·.1) = false := by rfl) :
    PEV X T [] true (.Call (.Name y p) (e :: es) [] pos) (fCl gc fr) := PE.imp (pe_callB hc hg hm hv ha hn hdb he hpl) fun _ _ _ h => tv_cl hs h
theorem pev_callTy {id : String} {y : Str} {p : Pos} {rc : List V → Hp → VK → Prop} {gc : List D → Option D} (hc : CallR X (.type id) rc) (hs : ClS X.K rc gc) (hg : Gl X y) (hm : X.mg y = none) (hv : bootBuiltins y = some (.type id)) (ha : PAV X T O x (e :: es) fr)
    (hn : y ≠ "__name__" := by decide) (hdb : (y == ("__debug__" : Str)) = false := by decide) (he : starEach (e :: es) X.env = (false, eval e X.env) :: starEach es X.env := by rfl) (hpl : (backTo pos (starEach es X.env)).any (·.1) = false := by rfl) :
    PEV X T [] true (.Call (.Name y p) (e :: es) [] pos) (fCl gc fr) := PE.imp (pe_callTy hc hg hm hv ha hn hdb he hpl) fun _ _ _ h => tv_cl hs h
end
end Vl

namespace Vl
open PySem PySem.Spec PyProof.Rows L2

inductive Res where
  | nx (ρ : Env) | rt (d : D) (ρ : Env) | bk (ρ : Env) | ct (ρ : Env)
abbrev MS := Env → Option Res
/-- the end of a statement: the slots W may hold other objects, the slots T may be touched -/
structure Fin (K : PySem.W.Frag) (W T : List Nat) (Z : Addr → Prop) (ρ : Env) (Fs : Ft) (σ : L2.St) (H : Hp) (Z' : Addr → Prop) (ρ' : Env) (Fs' : Ft) (σ' : L2.St) (H' : Hp) : Prop where
  rel : Rel K Z' ρ' σ' H' Fs'
  frm : Frm T Z ρ Fs H Z' ρ' Fs' H'
  sg : ∀ j, j ∉ W → σ'[j]? = σ[j]?
  sl : σ'.length = σ.length
def tVS (K : PySem.W.Frag) (W T : List Nat) (f : MS) : TS := fun D σ H => ∃ Z ρ Fs r, Rel K Z ρ σ H Fs ∧ f ρ = some r ∧
  (∀ ρ', r = .nx ρ' → ∀ σ' H' Z' Fs', Fin K W T Z ρ Fs σ H Z' ρ' Fs' σ' H' → D.nx σ' H') ∧
  (∀ ρ', r = .bk ρ' → ∀ σ' H' Z' Fs', Fin K W T Z ρ Fs σ H Z' ρ' Fs' σ' H' → D.bk σ' H') ∧
  (∀ ρ', r = .ct ρ' → ∀ σ' H' Z' Fs', Fin K W T Z ρ Fs σ H Z' ρ' Fs' σ' H' → D.ct σ' H') ∧
  (∀ d ρ', r = .rt d ρ' → ∀ σ' v H' Z' Fs' F, Fin K W T Z ρ Fs σ H Z' ρ' Fs' σ' H' → Val K Z' H' Fs' [] true d v F → Cf T Fs H true F → D.rt v H')
abbrev PSV (X : Cx) (W T : List Nat) (st : Stmt) (f : MS) : Prop := PS X st (tVS X.K W T f)
abbrev PSsV (X : Cx) (W T : List Nat) (sts : List Stmt) (f : MS) : Prop := PSs X sts (tVS X.K W T f)

section
variable {K : PySem.W.Frag} {Z Z' Z1 Z2 : Addr → Prop} {ρ ρ' ρ1 ρ2 : Env} {Fs Fs' Fs1 Fs2 : Ft} {H H' H1 H2 : Hp} {T T1 T2 O O1 O2 W W1 W2 : List Nat} {x : Bool} {d : D} {v : V} {F : List Addr} {σ σ' σ1 σ2 : L2.St}
theorem Fin.trans (f1 : Fin K W1 T1 Z ρ Fs σ H Z1 ρ1 Fs1 σ1 H1) (f2 : Fin K W2 T2 Z1 ρ1 Fs1 σ1 H1 Z2 ρ2 Fs2 σ2 H2) : Fin K (W1 ++ W2) (T1 ++ T2) Z ρ Fs σ H Z2 ρ2 Fs2 σ2 H2 :=
  ⟨f2.rel, f1.frm.trans f2.frm, fun j hj => (f2.sg j fun z => hj (List.mem_append_right _ z)).trans (f1.sg j fun z => hj (List.mem_append_left _ z)), f2.sl.trans f1.sl⟩
theorem Fin.mono (f : Fin K W T Z ρ Fs σ H Z' ρ' Fs' σ' H') (hw : ∀ i ∈ W, i ∈ W1) (ht : ∀ i ∈ T, i ∈ T1) : Fin K W1 T1 Z ρ Fs σ H Z' ρ' Fs' σ' H' :=
  ⟨f.rel, f.frm.mono ht, fun j hj => f.sg j fun z => hj (hw j z), f.sl⟩
theorem Fin.left (W2 T2 : List Nat) (f : Fin K W1 T1 Z ρ Fs σ H Z' ρ' Fs' σ' H') : Fin K (W1 ++ W2) (T1 ++ T2) Z ρ Fs σ H Z' ρ' Fs' σ' H' := f.mono (fun j hj => List.mem_append_left _ hj) fun j hj => List.mem_append_left _ hj
theorem Fin.of (rel : Rel K Z' ρ' σ H' Fs') (f : Frm T Z ρ Fs H Z' ρ' Fs' H') : Fin K [] T Z ρ Fs σ H Z' ρ' Fs' σ H' := ⟨rel, f, fun _ _ => rfl, rfl⟩
theorem Fin.refl (W T : List Nat) (rel : Rel K Z ρ σ H Fs) : Fin K W T Z ρ Fs σ H Z ρ Fs σ H := ⟨rel, Frm.refl T, fun _ _ => rfl, rfl⟩
/-- a value put into a slot -/
theorem Rel.put {i : Nat} (rel : Rel K Z ρ σ H Fs) (w : Val K Z H Fs [] true d v F) : Rel K Z (ρ.set i (some d)) (σ.set i (some v)) H (fun j => if j = i then F else Fs j) := by
  refine ⟨fun j e he => ?_, fun j => ?_, fun j k a h1 h2 => ?_, fun j a h => ?_, rel.zt, fun j a h => ?_, by rw [List.length_set, List.length_set]; exact rel.len⟩
  · by_cases q : j = i
    · subst q
      by_cases hl : j < ρ.length
      · rw [List.getElem?_set_self hl] at he
        cases he
        simp only [if_pos rfl]
        exact ⟨v, List.getElem?_set_self (by rw [← rel.len]; exact hl), w.r⟩
      · rw [List.getElem?_eq_none (by simpa using hl)] at he; cases he
    · rw [List.getElem?_set_ne (Ne.symm q)] at he
      simp only [if_neg q]
      rw [List.getElem?_set_ne (Ne.symm q)]
      exact rel.at_ j e he
  · by_cases q : j = i
    · simp only [if_pos q]; exact (w.exc rfl).1
    · simp only [if_neg q]; exact rel.nd j
  · by_cases q : j = i
    · by_cases p : k = i
      · rw [q, p]
      · simp only [if_pos q] at h1
        simp only [if_neg p] at h2
        exact absurd (w.ori k a h1 h2) (by simp)
    · by_cases p : k = i
      · simp only [if_neg q] at h1
        simp only [if_pos p] at h2
        exact absurd (w.ori j a h2 h1) (by simp)
      · simp only [if_neg q] at h1
        simp only [if_neg p] at h2
        exact rel.dj j k a h1 h2
  · by_cases q : j = i
    · simp only [if_pos q] at h; exact (w.exc rfl).2 a h
    · simp only [if_neg q] at h; exact rel.nz j a h
  · by_cases q : j = i
    · simp only [if_pos q] at h; exact w.r.tr a h
    · simp only [if_neg q] at h; exact rel.ft j a h
theorem Frm.put {i : Nat} (f : Frm T Z ρ Fs H Z' ρ' Fs' H') (c : Cf T Fs H true F) : Frm (i :: T) Z ρ Fs H Z' (ρ'.set i (some d)) (fun j => if j = i then F else Fs' j) H' := by
  have f' := f.mono (T1 := i :: T) fun j hj => List.mem_cons_of_mem _ hj
  refine ⟨fun j hj => ?_, f'.keep, fun j hj a ha => ?_, f'.c3, f'.zz, by rw [List.length_set]; exact f.len⟩
  · have q : j ≠ i := fun e => hj (by rw [e]; exact List.mem_cons_self)
    have h := f'.sub j hj
    exact ⟨(if_neg q).trans h.1, (List.getElem?_set_ne (Ne.symm q)).trans h.2⟩
  · by_cases q : j = i
    · simp only [if_pos q] at ha
      exact (c rfl a ha).imp (fun ⟨k, hk, z⟩ => ⟨k, List.mem_cons_of_mem _ hk, z⟩) id
    · simp only [if_neg q] at ha
      exact f'.c1 j hj a ha
theorem Fin.put {i : Nat} (rel : Rel K Z' ρ' σ H' Fs') (f : Frm T Z ρ Fs H Z' ρ' Fs' H') (w : Val K Z' H' Fs' [] true d v F) (c : Cf T Fs H true F) :
    Fin K [i] (i :: T) Z ρ Fs σ H Z' (ρ'.set i (some d)) (fun j => if j = i then F else Fs' j) (σ.set i (some v)) H' :=
  ⟨rel.put w, f.put c, fun j hj => List.getElem?_set_ne (fun e => hj (by rw [e]; exact List.mem_cons_self)), by rw [List.length_set]⟩
end

/-! ### statements -/
def sSet (i : Nat) (f : M D) : MS := fun ρ => (f ρ).bind fun p => some (.nx (p.2.set i (some p.1)))
def sDrop (f : M D) : MS := fun ρ => (f ρ).bind fun p => some (.nx p.2)
def sRet (f : M D) : MS := fun ρ => (f ρ).bind fun p => some (.rt p.1 p.2)
def sRetN : MS := fun ρ => some (.rt .non ρ)
def sIf (c : M Bool) (a b : MS) : MS := fun ρ => (c ρ).bind fun p => if p.1 = true then a p.2 else b p.2
def sNil : MS := fun ρ => some (.nx ρ)
def sSeq (a b : MS) : MS := fun ρ => (a ρ).bind fun r => match r with
  | .nx ρ' => b ρ'
  | r => some r
def sBk : MS := fun ρ => some (.bk ρ)
def sCt : MS := fun ρ => some (.ct ρ)
def sAug (i : Nat) (T : List Nat) (g : D → D → Option D) (f : M D) : MS := fun ρ => (Env.at ρ i).bind fun o => (f ρ).bind fun p => if safe [i] T o = true then (g o p.1).bind fun d => some (.nx (p.2.set i (some d))) else none

section
variable {X : Cx} {T T1 T2 T3 O O1 O2 O3 W W1 W2 : List Nat} {x x1 x2 x3 : Bool} {e c : Expr} {f : M D} {fc : M Bool} {s1 s2 : MS} {st : Stmt} {sts a b : List Stmt} {pos : Pos}
theorem psv_set (i : Nat) {y : Str} {pos' : Pos} (hN : X.N.Nodup) (he : PEV X T [] true e f) (hi : X.N[i]? = some y := by rfl) (hx : Loc X.env.scope y := by first | exact Or.inl rfl | exact Or.inr rfl)
    (hs : swapsWith e (some (.Name y pos')) pos.line X.env = pure false := by rfl) (hf : X.fn y = true ∨ X.env.scope.names.lookup y = some .local := by first | exact .inl rfl | exact .inr rfl) :
    PSV X [i] (i :: T) (.Assign [.Name y pos'] e pos) (sSet i f) := by
  refine PS.imp (ps_set hN hi hx he hs hf) fun D σ H h => ?_
  obtain ⟨Z, ρ, Fs, r, rel, hf, h1, h2, h3, h4⟩ := h
  unfold sSet at hf
  obtain ⟨⟨d, ρ1⟩, hp, hf⟩ := Option.bind_eq_some_iff.mp hf
  cases hf
  exact ⟨Z, ρ, Fs, d, ρ1, rel, hp, fun v H' Z' Fs' F rel' f' w c => h1 _ rfl _ _ _ _ (Fin.put rel' f' w c)⟩
theorem psv_expr (he : PEV X T O x e f) (hs : swapsWith e none pos.line X.env = pure false := by rfl) : PSV X [] T (.Expr e pos) (sDrop f) := by
  refine PS.imp (ps_expr he hs) fun D σ H h => ?_
  obtain ⟨Z, ρ, Fs, r, rel, hf, h1, h2, h3, h4⟩ := h
  unfold sDrop at hf
  obtain ⟨⟨d, ρ1⟩, hp, hf⟩ := Option.bind_eq_some_iff.mp hf
  cases hf
  exact ⟨Z, ρ, Fs, d, ρ1, rel, hp, fun v H' Z' Fs' F rel' f' w c => h1 _ rfl _ _ _ _ (Fin.of rel' f')⟩
theorem psv_doc {z : Str} {j pos'} : PSV X [] [] (.Expr (.Constant (.str z) j pos) pos') sNil := by
  refine PS.imp ps_doc fun D σ H h => ?_
  obtain ⟨Z, ρ, Fs, r, rel, hf, h1, h2, h3, h4⟩ := h
  cases hf
  exact h1 _ rfl _ _ _ _ (Fin.refl _ _ rel)
theorem psv_pass : PSV X [] [] (.Pass pos) sNil := by
  refine PS.imp ps_pass fun D σ H h => ?_
  obtain ⟨Z, ρ, Fs, r, rel, hf, h1, h2, h3, h4⟩ := h
  cases hf
  exact h1 _ rfl _ _ _ _ (Fin.refl _ _ rel)
theorem psv_break : PSV X [] [] (.Break pos) sBk := by
  refine PS.imp ps_break fun D σ H h => ?_
  obtain ⟨Z, ρ, Fs, r, rel, hf, h1, h2, h3, h4⟩ := h
  cases hf
  exact h2 _ rfl _ _ _ _ (Fin.refl _ _ rel)
theorem psv_continue : PSV X [] [] (.Continue pos) sCt := by
  refine PS.imp ps_continue fun D σ H h => ?_
  obtain ⟨Z, ρ, Fs, r, rel, hf, h1, h2, h3, h4⟩ := h
  cases hf
  exact h3 _ rfl _ _ _ _ (Fin.refl _ _ rel)
/-- a statement that no run comes to -/
theorem psv_never : PSV X [] [] st (fun _ => none) := by
  refine PS.imp ps_never fun D σ H h => ?_
  obtain ⟨Z, ρ, Fs, r, rel, hf, h1, h2, h3, h4⟩ := h
  cases hf
theorem psv_ret (he : PEV X T [] true e f) : PSV X [] T (.Return (some e) pos) (sRet f) := by
  refine PS.imp (ps_ret he) fun D σ H h => ?_
  obtain ⟨Z, ρ, Fs, r, rel, hf, h1, h2, h3, h4⟩ := h
  unfold sRet at hf
  obtain ⟨⟨d, ρ1⟩, hp, hf⟩ := Option.bind_eq_some_iff.mp hf
  cases hf
  exact ⟨Z, ρ, Fs, d, ρ1, rel, hp, fun v H' Z' Fs' F rel' f' w c => h4 _ _ rfl _ _ _ _ _ _ (Fin.of rel' f') w c⟩
theorem psv_retN : PSV X [] [] (.Return none pos) sRetN := by
  refine PS.imp ps_retN fun D σ H h => ?_
  obtain ⟨Z, ρ, Fs, r, rel, hf, h1, h2, h3, h4⟩ := h
  cases hf
  exact h4 _ _ rfl _ _ _ _ _ [] (Fin.refl _ _ rel) ⟨.non, fun _ _ h => (by cases h), fun _ => ⟨List.nodup_nil, fun _ h => (by cases h)⟩⟩ Cf.nil
theorem pssv_nil : PSsV X [] [] [] sNil := by
  refine PSs.imp pss_nil fun D σ H h => ?_
  obtain ⟨Z, ρ, Fs, r, rel, hf, h1, h2, h3, h4⟩ := h
  cases hf
  exact h1 _ rfl _ _ _ _ (Fin.refl _ _ rel)
theorem pssv_one (h : PSV X W T st s1) : PSsV X W T [st] s1 := pss_one h
theorem pssv_cons (ha : PSV X W1 T1 st s1) (hb : PSsV X W2 T2 sts s2) : PSsV X (W1 ++ W2) (T1 ++ T2) (st :: sts) (sSeq s1 s2) := by
  refine PSs.imp (pss_cons ha hb) fun D σ H h => ?_
  obtain ⟨Z, ρ, Fs, r, rel, hf, h1, h2, h3, h4⟩ := h
  unfold sSeq at hf
  obtain ⟨r1, hp, hf⟩ := Option.bind_eq_some_iff.mp hf
  refine ⟨Z, ρ, Fs, r1, rel, hp, fun ρ' e σ' H' Z' Fs' fn => ?_, fun ρ' e σ' H' Z' Fs' fn => ?_, fun ρ' e σ' H' Z' Fs' fn => ?_, fun d ρ' e σ' v H' Z' Fs' F fn w c => ?_⟩
  · subst e
    refine ⟨Z', ρ', Fs', r, fn.rel, hf, fun ρ2 e σ2 H2 Z2 Fs2 fn2 => h1 _ e _ _ _ _ (fn.trans fn2), fun ρ2 e σ2 H2 Z2 Fs2 fn2 => h2 _ e _ _ _ _ (fn.trans fn2), fun ρ2 e σ2 H2 Z2 Fs2 fn2 => h3 _ e _ _ _ _ (fn.trans fn2),
      fun d ρ2 e σ2 v H2 Z2 Fs2 F fn2 w c => h4 _ _ e _ _ _ _ _ _ (fn.trans fn2) w (c.late fn.frm)⟩
  · subst e
    cases hf
    exact h2 _ rfl _ _ _ _ (fn.left _ _)
  · subst e
    cases hf
    exact h3 _ rfl _ _ _ _ (fn.left _ _)
  · subst e
    cases hf
    exact h4 _ _ rfl _ _ _ _ _ _ (fn.left _ _) w c.early
theorem psv_if (hc : PTV X T e fc) (ha : PSsV X W1 T1 a s1) (hb : PSsV X W2 T2 b s2) : PSV X (W1 ++ W2) (T ++ (T1 ++ T2)) (.If e a b pos) (sIf fc s1 s2) := by
  refine PS.imp (ps_if hc ha hb) fun D σ H h => ?_
  obtain ⟨Z, ρ, Fs, r, rel, hf, h1, h2, h3, h4⟩ := h
  unfold sIf at hf
  obtain ⟨⟨k, ρ1⟩, hp, hf⟩ := Option.bind_eq_some_iff.mp hf
  refine ⟨Z, ρ, Fs, k, ρ1, rel, hp, fun H1 Z1 Fs1 rel1 f1 => ?_⟩
  have fn1 := Fin.of rel1 f1
  cases k with
  | true =>
    have up : ∀ {Z2 ρ2 Fs2 σ2 H2}, Fin X.K W1 T1 Z1 ρ1 Fs1 σ H1 Z2 ρ2 Fs2 σ2 H2 → Fin X.K (W1 ++ W2) (T ++ (T1 ++ T2)) Z ρ Fs σ H Z2 ρ2 Fs2 σ2 H2 := fun fn => fn1.trans (fn.left W2 T2)
    exact ⟨Z1, ρ1, Fs1, r, rel1, hf, fun ρ2 e σ2 H2 Z2 Fs2 fn2 => h1 _ e _ _ _ _ (up fn2), fun ρ2 e σ2 H2 Z2 Fs2 fn2 => h2 _ e _ _ _ _ (up fn2), fun ρ2 e σ2 H2 Z2 Fs2 fn2 => h3 _ e _ _ _ _ (up fn2),
      fun d ρ2 e σ2 v H2 Z2 Fs2 F fn2 w c => h4 _ _ e _ _ _ _ _ _ (up fn2) w (Cf.late f1 c.early)⟩
  | false =>
    have up : ∀ {Z2 ρ2 Fs2 σ2 H2}, Fin X.K W2 T2 Z1 ρ1 Fs1 σ H1 Z2 ρ2 Fs2 σ2 H2 → Fin X.K (W1 ++ W2) (T ++ (T1 ++ T2)) Z ρ Fs σ H Z2 ρ2 Fs2 σ2 H2 := fun fn => fn1.trans (fn.mono (fun j hj => List.mem_append_right _ hj) fun j hj => List.mem_append_right _ hj)
    exact ⟨Z1, ρ1, Fs1, r, rel1, hf, fun ρ2 e σ2 H2 Z2 Fs2 fn2 => h1 _ e _ _ _ _ (up fn2), fun ρ2 e σ2 H2 Z2 Fs2 fn2 => h2 _ e _ _ _ _ (up fn2), fun ρ2 e σ2 H2 Z2 Fs2 fn2 => h3 _ e _ _ _ _ (up fn2),
      fun d ρ2 e σ2 v H2 Z2 Fs2 F fn2 w c => h4 _ _ e _ _ _ _ _ _ (up fn2) w (Cf.late f1 (c.mono fun j hj => List.mem_append_right _ hj))⟩
theorem psv_aug (i : Nat) {y : Str} {pos' : Pos} {op : Operator} {ti : TIp} {g : D → D → Option D} (hN : X.N.Nodup) (ho : PIp X op ti) (hs : OpS X.K ti g) (he : PEV X T O x e f) (hi : X.N[i]? = some y := by rfl) (hx : Loc X.env.scope y := by first | exact Or.inl rfl | exact Or.inr rfl)
    (hf : X.fn y = true ∨ X.env.scope.names.lookup y = some .local := by first | exact .inl rfl | exact .inr rfl) :
    PSV X [i] (i :: T) (.AugAssign (.Name y pos') op e pos) (sAug i T g f) := by
  refine PS.imp (ps_aug hN hi hx he ho hf) fun D σ H h => ?_
  obtain ⟨Z, ρ, Fs, r, rel, hf, h1, h2, h3, h4⟩ := h
  unfold sAug at hf
  obtain ⟨o, h0, hf⟩ := Option.bind_eq_some_iff.mp hf
  obtain ⟨⟨d, ρ1⟩, hp, hf⟩ := Option.bind_eq_some_iff.mp hf
  split at hf
  · rename_i hsf
    obtain ⟨d', h5, hf⟩ := Option.bind_eq_some_iff.mp hf
    cases hf
    obtain ⟨v0, hv0, r0⟩ := rel.at_ i o (Env.at_some h0)
    refine ⟨v0, hv0, Z, ρ, Fs, d, ρ1, rel, hp, fun v H' Z' Fs' F rel' f' w c => ?_⟩
    have w0 : Val X.K Z H Fs [i] false o v0 (Fs i) := ⟨r0, fun j a h1 h2 => by rw [rel.dj i j a h1 h2]; exact List.mem_cons_self, fun h => (by cases h)⟩
    have w0' := w0.keep rel f' hsf
    refine hs Z' H' o d v0 v (Fs i) F _ _ w0'.r w.r h5 fun z H2 F2 k r2 nd nw => ?_
    have f3 := f'.trans (Frm.pureT [] k)
    rw [List.append_nil] at f3
    exact h1 _ rfl _ _ _ _ (Fin.put (rel'.keep0 k) f3 (Val.new rel' r2 nd nw) (Cf.new f'.keep nw))
  · cases hf
end
end Vl

namespace Vl
open PySem PySem.Spec PyProof.Rows L2

/-! ### what is walked -/
/-- while A and the known set are kept, the walk stands and its items are these data -/
def Stay (K : PySem.W.Frag) (Z' : Addr → Prop) (H' : Hp) (A : List Addr) (G : Hp → Prop) (Y : Nat → Hp → V → Hp → Prop) (items : List D) : Prop :=
  ∀ (M : Addr → Prop) (Z2 : Addr → Prop) (H2 : Hp), Keep M H' H2 → (∀ a ∈ A, ¬ M a) → (∀ a, Z' a → ¬ M a) → (∀ a, Z' a → Z2 a) → G H2 ∧ ∀ i x h d, Y i H2 x h → items[i]? = some d → Keep M0 H2 h ∧ R K Z2 h d x []
def tVI (K : PySem.W.Frag) (T O : List Nat) (f : M (List D)) : TI := fun σ H Rk => ∃ Z ρ Fs items ρ', Rel K Z ρ σ H Fs ∧ f ρ = some (items, ρ') ∧
  ∀ J H' Z' Fs' A G Y, Rel K Z' ρ' σ H' Fs' → Frm T Z ρ Fs H Z' ρ' Fs' H' → Walk J items.length G Y → (∀ j a, a ∈ A → a ∈ Fs' j → j ∈ O) → Stay K Z' H' A G Y items → Rk J H'
abbrev PIV (X : Cx) (T O : List Nat) (tg e : Expr) (f : M (List D)) : Prop := PI X tg e (tVI X.K T O f)
theorem PI.imp {X : Cx} {tg e : Expr} {t t' : TI} (h : PI X tg e t) (i : ∀ σ H Q, t' σ H Q → t σ H Q) : PI X tg e t' := ⟨fun pins s σ H Q I q => h.run pins s σ H Q I (i σ H Q q)⟩

/-! ### targets of shared data -/
def tVG (K : PySem.W.Frag) (W T : List Nat) (g : D → Env → Option Env) : TG := fun v σ H Q => ∃ Z ρ Fs d ρ', Rel K Z ρ σ H Fs ∧ R K Z H d v [] ∧ g d ρ = some ρ' ∧
  ∀ σ' H' Z' Fs', Fin K W T Z ρ Fs σ H Z' ρ' Fs' σ' H' → Q σ' H'
def tVGs (K : PySem.W.Frag) (W T : List Nat) (g : List D → Env → Option Env) : TGs := fun vs σ H Q => ∃ Z ρ Fs ds ρ', Rel K Z ρ σ H Fs ∧ Rs K Z H ds vs [] ∧ g ds ρ = some ρ' ∧
  ∀ σ' H' Z' Fs', Fin K W T Z ρ Fs σ H Z' ρ' Fs' σ' H' → Q σ' H'
abbrev PGV (X : Cx) (W T : List Nat) (tg : Expr) (g : D → Env → Option Env) : Prop := PG X tg (tVG X.K W T g)
abbrev PGsV (X : Cx) (W T : List Nat) (tgs : List Expr) (g : List D → Env → Option Env) : Prop := PGs X tgs (tVGs X.K W T g)
theorem PG.imp {X : Cx} {tg : Expr} {t t' : TG} (h : PG X tg t) (i : ∀ v σ H Q, t' v σ H Q → t v σ H Q) : PG X tg t' := ⟨fun pins s σ H v u Q I r q => h.run pins s σ H v u Q I r (i v σ H Q q)⟩
theorem PGs.imp {X : Cx} {tg : List Expr} {t t' : TGs} (h : PGs X tg t) (i : ∀ v σ H Q, t' v σ H Q → t v σ H Q) : PGs X tg t' := ⟨fun pins s σ H v u Q I r q => h.run pins s σ H v u Q I r (i v σ H Q q)⟩
def gNm (i : Nat) : D → Env → Option Env := fun d ρ => some (ρ.set i (some d))
def gsNil : List D → Env → Option Env := fun ds ρ => match ds with
  | [] => some ρ
  | _ => none
def gsCons (g : D → Env → Option Env) (gs : List D → Env → Option Env) : List D → Env → Option Env := fun ds ρ => match ds with
  | d :: r => (g d ρ).bind fun ρ' => gs r ρ'
  | [] => none
def gTp (n : Nat) (gs : List D → Env → Option Env) : D → Env → Option Env := fun d ρ => match d with
  | .tup l => if l.length = n then gs l ρ else none
  | _ => none

section
variable {X : Cx} {T T1 T2 T3 O O1 O2 O3 W W1 W2 Wg Tg Wb Tb : List Nat} {x x1 x2 x3 : Bool} {e c tg iter : Expr} {f : M D} {fi fr : M (List D)} {fc : M Bool} {s1 s2 sb : MS} {st : Stmt} {sts a b body es : List Expr} {bd : List Stmt} {pos : Pos} {g : D → Env → Option Env} {gs : List D → Env → Option Env}
theorem Rs.ofR {K : PySem.W.Frag} {Z : Addr → Prop} {H : Hp} {d : D} {v : V} (r : R K Z H d v []) (fs : Ft) : Val K Z H fs [] true d v [] := ⟨r, fun _ _ h => (by cases h), fun _ => ⟨List.nodup_nil, fun _ h => (by cases h)⟩⟩
theorem pgv_name (i : Nat) {y : Str} (hN : X.N.Nodup) (hi : X.N[i]? = some y := by rfl) (hx : Loc X.env.scope y := by first | exact Or.inl rfl | exact Or.inr rfl) (hf : X.fn y = true ∨ X.env.scope.names.lookup y = some .local := by first | exact .inl rfl | exact .inr rfl) :
    PGV X [i] [i] (.Name y pos) (gNm i) := by
  refine PG.imp (pg_name hN hi hx hf) fun v σ H Q h => ?_
  obtain ⟨Z, ρ, Fs, d, ρ', rel, r, hg, q⟩ := h
  cases hg
  exact q _ _ _ _ (Fin.put rel (Frm.refl []) (Rs.ofR r Fs) Cf.nil)
theorem pgsv_nil : PGsV X [] [] [] gsNil := by
  refine PGs.imp pgs_nil fun v σ H Q h => ?_
  obtain ⟨Z, ρ, Fs, ds, ρ', rel, r, hg, q⟩ := h
  cases ds with
  | nil =>
    cases hg
    have e := r.length
    exact ⟨List.eq_nil_of_length_eq_zero e.symm, q _ _ _ _ (Fin.refl _ _ rel)⟩
  | cons _ _ => cases hg
theorem pgsv_cons {es : List Expr} (h1 : PGV X W1 T1 e g) (h2 : PGsV X W2 T2 es gs) (hs : (assignEach (e :: es) X.env).map (·.2) = assign e X.env :: (assignEach es X.env).map (·.2) := by rfl) : PGsV X (W1 ++ W2) (T1 ++ T2) (e :: es) (gsCons g gs) := by
  refine PGs.imp (pgs_cons h1 h2 hs) fun v σ H Q h => ?_
  obtain ⟨Z, ρ, Fs, ds, ρ', rel, r, hg, q⟩ := h
  generalize hF : ([] : List Addr) = F at r
  cases r with
  | nil => cases hg
  | cons r rs =>
    obtain ⟨e1, e2⟩ := app_eq_nil hF.symm
    subst e1
    subst e2
    obtain ⟨ρ1, h3, h4⟩ := Option.bind_eq_some_iff.mp hg
    refine ⟨_, _, rfl, Z, ρ, Fs, _, ρ1, rel, r, h3, fun σ1 H1 Z1 Fs1 fn1 => ?_⟩
    exact ⟨Z1, ρ1, Fs1, _, ρ', fn1.rel, rs.keep fn1.frm.keep fn1.frm.zz (fun a z ⟨j, hj, ha⟩ => rel.nz j a ha z) (fun a h => (by cases h)), h4, fun σ2 H2 Z2 Fs2 fn2 => q _ _ _ _ (fn1.trans fn2)⟩
theorem R.xt_inv {K : PySem.W.Frag} {Z : Addr → Prop} {H : Hp} {ds : List D} {v : V} {F : List Addr} (r : R K Z H (.xt ds) v F) : ∃ a vs, v = .ref a ∧ SqT K H a vs ∧ Rs K Z H ds vs F := by
  cases r with
  | xt h _ _ rs => exact ⟨_, _, rfl, .inl (.inr ⟨_, h⟩), rs⟩
theorem R.tup_inv {K : PySem.W.Frag} {Z : Addr → Prop} {H : Hp} {ds : List D} {v : V} {F : List Addr} (r : R K Z H (.tup ds) v F) : ∃ a vs, v = .ref a ∧ SqT K H a vs ∧ Rs K Z H ds vs F := by
  cases r with
  | tup h rs => exact ⟨_, _, rfl, SqT.of h, rs⟩
theorem R.tup_tr {K : PySem.W.Frag} {Z : Addr → Prop} {H : Hp} {ds : List D} {v : V} {F : List Addr} (r : R K Z H (.tup ds) v F) : ∃ a vs, v = .ref a ∧ H a = some (.tup vs) ∧ Rs K Z H ds vs F := by
  cases r with
  | tup h rs => exact ⟨_, _, rfl, h, rs⟩
theorem pgv_tup {es : List Expr} {k : Nat} {n : Nat} (hc : X.calm = true) (h : PGsV X W T es gs) (hn : (assignEach es X.env).length = n := by rfl) (hst : (assignEach es X.env).findIdx? (·.1) = none := by rfl) : PGV X W T (.Tuple es k pos) (gTp n gs) := by
  refine PG.imp (pg_tup hc h hn hst) fun v σ H Q h => ?_
  obtain ⟨Z, ρ, Fs, d, ρ', rel, r, hg, q⟩ := h
  unfold gTp at hg
  split at hg
  · split at hg
    · rename_i hl
      obtain ⟨a, vs, e, hq, rs⟩ := r.tup_inv
      exact ⟨a, vs, e, hq, by rw [← rs.length]; exact hl, Z, ρ, Fs, _, ρ', rel, rs, hg, q⟩
    · cases hg
  · cases hg
/-- target = e, of data without owned things -/
def sAsg (g : D → Env → Option Env) (f : M D) : MS := fun ρ => (f ρ).bind fun p => if p.1.noOwn = true then (g p.1 p.2).bind fun ρ' => some (.nx ρ') else none
theorem psv_asg (he : PEV X T1 O1 x1 e f) (hg : PGV X W T2 tg g) (hs : swapsWithSole [tg] e pos.line X.env = pure false := by rfl) (hw : swappedStores [tg] e X.env = pure none := by rfl) (h1 : (assignEach [tg] X.env).map (·.2) = [assign tg X.env] := by rfl) :
    PSV X W (T1 ++ T2) (.Assign [tg] e pos) (sAsg g f) := by
  refine PS.imp (ps_asg he hg hs hw h1) fun D σ H h => ?_
  obtain ⟨Z, ρ, Fs, r, rel, hf, h1, h2, h3, h4⟩ := h
  unfold sAsg at hf
  obtain ⟨⟨d, ρ1⟩, hp, hf⟩ := Option.bind_eq_some_iff.mp hf
  split at hf
  · rename_i hn
    obtain ⟨ρ2, h5, hf⟩ := Option.bind_eq_some_iff.mp hf
    cases hf
    refine ⟨Z, ρ, Fs, d, ρ1, rel, hp, fun v H' Z' Fs' F rel' f' w c => ?_⟩
    have e := w.r.no hn
    subst e
    exact ⟨Z', ρ1, Fs', d, ρ2, rel', w.r, h5, fun σ2 H2 Z2 Fs2 fn2 => h1 _ rfl _ _ _ _ ((Fin.of rel' f').trans fn2)⟩
  · cases hf
/-- a, b = x, y with plain local names -/
def sPar (i j : Nat) (f : M (List D)) : MS := fun ρ => (f ρ).bind fun p => match p.1 with
  | [d, e] => some (.nx ((p.2.set i (some d)).set j (some e)))
  | _ => none
theorem psv_par (i j : Nat) {y z : Str} {a b : Expr} {px py pt : Pos} {kt k2 pt2} (hc : X.calm = true) (hN : X.N.Nodup) (ha : PAV X T [] true [a, b] fr) (hw : swappedStores [.Tuple [.Name y px, .Name z py] kt pt] (.Tuple [a, b] k2 pt2) X.env = pure (some [y, z]))
    (hi : X.N[i]? = some y := by rfl) (hj : X.N[j]? = some z := by rfl) (hij : i ≠ j := by decide) (hx : X.env.scope.names.lookup y = some .local := by rfl) (hy : X.env.scope.names.lookup z = some .local := by rfl)
    (hs : swapsWithSole [.Tuple [.Name y px, .Name z py] kt pt] (.Tuple [a, b] k2 pt2) pos.line X.env = pure false := by rfl) :
    PSV X [i, j] (j :: i :: T) (.Assign [.Tuple [.Name y px, .Name z py] kt pt] (.Tuple [a, b] k2 pt2) pos) (sPar i j fr) := by
  refine PS.imp (ps_par hc hN hi hj hij hx hy ha hw hs) fun D σ H h => ?_
  obtain ⟨Z, ρ, Fs, r, rel, hf, h1, h2, h3, h4⟩ := h
  unfold sPar at hf
  obtain ⟨⟨ds, ρ1⟩, hp, hf⟩ := Option.bind_eq_some_iff.mp hf
  refine ⟨Z, ρ, Fs, ds, ρ1, rel, hp, fun vs H' Z' Fs' F rel' f' w c => ?_⟩
  split at hf
  · rename_i d e hde
    cases hf
    have hde : ds = [d, e] := hde
    subst hde
    obtain ⟨v1, ws, F1, G, rfl, rfl, r1, rs⟩ := w.r.uncons
    obtain ⟨v2, ws2, F2, G2, rfl, rfl, r2, rs2⟩ := rs.uncons
    cases rs2
    rw [List.append_nil] at w c
    obtain ⟨nd, nz⟩ := w.exc rfl
    obtain ⟨nd1, nd2, nd12⟩ := List.nodup_append.mp nd
    have c1 : Cf T Fs H true F1 := fun h a ha => c h a (List.mem_append_left _ ha)
    have c2 : Cf T Fs H true F2 := fun h a ha => c h a (List.mem_append_right _ ha)
    have w1 : Val X.K Z' H' Fs' [] true d v1 F1 := ⟨r1, fun j a h1 h2 => w.ori j a (List.mem_append_left _ h1) h2, fun _ => ⟨nd1, fun a ha => nz a (List.mem_append_left _ ha)⟩⟩
    have p1 := Fin.put (i := i) rel' f' w1 c1
    have w2 : Val X.K Z' H' (fun k => if k = i then F1 else Fs' k) [] true e v2 F2 := ⟨r2, fun k a h1 h2 => ?_, fun _ => ⟨nd2, fun a ha => nz a (List.mem_append_right _ ha)⟩⟩
    · refine ⟨v1, v2, rfl, h1 _ rfl _ _ _ _ ⟨p1.rel.put w2, p1.frm.put (c2.mono fun k hk => List.mem_cons_of_mem _ hk), fun k hk => ?_, by rw [List.length_set, List.length_set]⟩⟩
      have hk1 : k ≠ i := fun e => hk (by rw [e]; simp)
      have hk2 : k ≠ j := fun e => hk (by rw [e]; simp)
      rw [List.getElem?_set_ne (Ne.symm hk2), List.getElem?_set_ne (Ne.symm hk1)]
    · by_cases q : k = i
      · simp only [if_pos q] at h2
        exact absurd rfl (nd12 a h2 a h1)
      · simp only [if_neg q] at h2
        exact w.ori k a (List.mem_append_right _ h1) h2
  · cases hf

/-! ### for -/
def forL (g : D → Env → Option Env) (body : MS) : List D → Env → Option Res
  | [], ρ => some (.nx ρ)
  | d :: ds, ρ => (g d ρ).bind fun ρ1 => (body ρ1).bind fun r => match r with
    | .nx ρ2 => forL g body ds ρ2
    | .ct ρ2 => forL g body ds ρ2
    | .bk ρ2 => some (.nx ρ2)
    | .rt d ρ2 => some (.rt d ρ2)
def sFor (fi : M (List D)) (g : D → Env → Option Env) (body : MS) : MS := fun ρ => (fi ρ).bind fun p => forL g body p.1 p.2
theorem tv_for {K : PySem.W.Frag} (ho : O.all (fun i => !(Tg ++ Tb).contains i) = true) {D : Ends} {σ : L2.St} {H : Hp} (h : tVS K (Wg ++ Wb) (T ++ (Tg ++ Tb)) (sFor fi g sb) D σ H) : tFor (tVI K T O fi) (tVG K Wg Tg g) (tVS K Wb Tb sb) D σ H := by
  obtain ⟨Z, ρ, Fs, r, rel, hf, h1, h2, h3, h4⟩ := h
  unfold sFor at hf
  obtain ⟨⟨items, ρ0⟩, hp, hf⟩ := Option.bind_eq_some_iff.mp hf
  refine ⟨Z, ρ, Fs, items, ρ0, rel, hp, fun J H0 Z0 Fs0 A G Y rel0 f0 wk hA stay => ?_⟩
  have far : ∀ a ∈ A, ¬ ∃ j ∈ Tg ++ Tb, a ∈ Fs0 j := fun a ha ⟨j, hj, hf⟩ => by
    have q := List.all_eq_true.mp ho j (hA j a ha hf)
    simp only [Bool.not_eq_true', List.contains_eq_mem, decide_eq_false_iff_not] at q
    exact q hj
  have znot : ∀ a, Z0 a → ¬ ∃ j ∈ Tg ++ Tb, a ∈ Fs0 j := fun a z ⟨j, _, ha⟩ => rel0.nz j a ha z
  have fin0 := Fin.of (σ := σ) rel0 f0
  refine for_it (n := items.length) wk (fun i σi Hi => ∃ Zi ρi Fsi, Fin K (Wg ++ Wb) (Tg ++ Tb) Z0 ρ0 Fs0 σ H0 Zi ρi Fsi σi Hi ∧ forL g sb (items.drop i) ρi = some r)
    ⟨Z0, ρ0, Fs0, Fin.refl _ _ rel0, by rw [List.drop_zero]; exact hf⟩ (fun i σi Hi hi ⟨Zi, ρi, Fsi, fn, _⟩ => (stay _ Zi Hi fn.frm.keep far znot fn.frm.zz).1) (fun i v σi Hi H' hi ⟨Zi, ρi, Fsi, fn, hl⟩ y => ?_) (fun σi Hi ⟨Zi, ρi, Fsi, fn, hl⟩ => ?_)
  · have hd : items[i]? = some items[i] := List.getElem?_eq_getElem hi
    obtain ⟨k, rv⟩ := (stay _ Zi Hi fn.frm.keep far znot fn.frm.zz).2 i v H' _ y hd
    rw [List.drop_eq_getElem_cons hi] at hl
    obtain ⟨ρ1, hg1, hl⟩ := Option.bind_eq_some_iff.mp hl
    obtain ⟨r1, hb1, hl⟩ := Option.bind_eq_some_iff.mp hl
    have rel1 := fn.rel.keep0 k
    have fn0 : Fin K (Wg ++ Wb) (Tg ++ Tb) Z0 ρ0 Fs0 σ H0 Zi ρi Fsi σi H' := by
      have f3 := fn.frm.trans (Frm.pureT [] k)
      rw [List.append_nil] at f3
      exact ⟨rel1, f3, fn.sg, fn.sl⟩
    refine ⟨Zi, ρi, Fsi, items[i], ρ1, rel1, rv, hg1, fun σ2 H2 Z2 Fs2 fn2 => ?_⟩
    have up : ∀ {Z3 ρ3 Fs3 σ3 H3}, Fin K Wb Tb Z2 ρ1 Fs2 σ2 H2 Z3 ρ3 Fs3 σ3 H3 → Fin K (Wg ++ Wb) (Tg ++ Tb) Z0 ρ0 Fs0 σ H0 Z3 ρ3 Fs3 σ3 H3 := fun fn3 =>
      (fn0.trans (fn2.trans fn3)).mono (fun j hj => (List.mem_append.mp hj).elim id id) (fun j hj => (List.mem_append.mp hj).elim id id)
    refine ⟨Z2, ρ1, Fs2, r1, fn2.rel, hb1, fun ρ3 e σ3 H3 Z3 Fs3 fn3 => ?_, fun ρ3 e σ3 H3 Z3 Fs3 fn3 => ?_, fun ρ3 e σ3 H3 Z3 Fs3 fn3 => ?_, fun d ρ3 e σ3 v3 H3 Z3 Fs3 F fn3 w cf => ?_⟩
    · subst e
      exact ⟨Z3, ρ3, Fs3, up fn3, hl⟩
    · subst e
      cases hl
      exact h1 _ rfl _ _ _ _ (fin0.trans (up fn3))
    · subst e
      exact ⟨Z3, ρ3, Fs3, up fn3, hl⟩
    · subst e
      cases hl
      have ca := Cf.late fn2.frm cf
      have cb := (Cf.late fn0.frm ca).mono (T1 := Tg ++ Tb) fun j hj => (List.mem_append.mp hj).elim id id
      exact h4 _ _ rfl _ _ _ _ _ _ (fin0.trans (up fn3)) w (Cf.late f0 cb)
  · rw [List.drop_length] at hl
    cases hl
    exact h1 _ rfl _ _ _ _ (fin0.trans fn)
theorem psv_for (hp : PassesOwn (model X.prog X.w) X.A X.env X.xe) (hc : X.calm = true) (hi : PIV X T O tg iter fi) (hg : PGV X Wg Tg tg g) (hb : PSsV X Wb Tb bd sb) (ho : O.all (fun i => !(Tg ++ Tb).contains i) = true := by rfl)
    (hs : ∀ x, foldedSetIterable iter X.env x = pure x := by intro _; rfl) : PSV X (Wg ++ Wb) (T ++ (Tg ++ Tb)) (.For tg iter bd [] pos) (sFor fi g sb) := by
  exact PS.imp (ps_for hp hc hi hg hb hs) fun D σ H h => tv_for ho h
end
end Vl

namespace Vl
open PySem PySem.Spec PyProof.Rows L2

/-! ### while -/
def whileN : Nat → M Bool → MS → Env → Option Res
  | 0, _, _, _ => none
  | n + 1, t, b, ρ => (t ρ).bind fun p => if p.1 = true then (b p.2).bind fun r => match r with
      | .nx ρ2 => whileN n t b ρ2
      | .ct ρ2 => whileN n t b ρ2
      | .bk ρ2 => some (.nx ρ2)
      | .rt d ρ2 => some (.rt d ρ2)
    else some (.nx p.2)
def fuel : Nat := 1000000
def sWhile (t : M Bool) (b : MS) : MS := whileN fuel t b
theorem whileN_mono {t : M Bool} {b : MS} : ∀ {n m : Nat} {ρ : Env} {r : Res}, n ≤ m → whileN n t b ρ = some r → whileN m t b ρ = some r
  | 0, _, _, _, _, h => nomatch h
  | n + 1, 0, _, _, h, _ => absurd h (by omega)
  | n + 1, m + 1, ρ, r, hm, h => by
    unfold whileN at h ⊢
    obtain ⟨p, h1, h⟩ := Option.bind_eq_some_iff.mp h
    rw [h1]
    show (if p.1 = true then _ else _) = _
    split at h
    · rename_i hp
      rw [if_pos hp]
      obtain ⟨q, h2, h⟩ := Option.bind_eq_some_iff.mp h
      rw [h2]
      cases q with
      | nx ρ2 => exact whileN_mono (by omega) h
      | ct ρ2 => exact whileN_mono (by omega) h
      | bk ρ2 => exact h
      | rt d ρ2 => exact h
    · rename_i hp
      rw [if_neg hp]
      exact h
theorem sWhile_of {t : M Bool} {b : MS} {n : Nat} {ρ : Env} {r : Res} (hn : n ≤ fuel) (h : whileN n t b ρ = some r) : sWhile t b ρ = some r := whileN_mono hn h

section
variable {X : Cx} {T T1 T2 T3 O O1 O2 O3 W W1 W2 Wg Tg Wb Tb : List Nat} {x x1 x2 x3 : Bool} {e c tg iter : Expr} {f fa : M D} {fi fr : M (List D)} {fc : M Bool} {s1 s2 sb : MS} {st : Stmt} {sts a b body es : List Expr} {bd : List Stmt} {pos : Pos} {g : D → Env → Option Env} {gs : List D → Env → Option Env}
theorem psv_while (hp : PassesOwn (model X.prog X.w) X.A X.env X.xe) (hc : PTV X T c fc) (hb : PSsV X Wb Tb bd sb) : PSV X Wb (T ++ Tb) (.While c bd [] pos) (sWhile fc sb) := by
  refine PS.imp (ps_while hp hc hb) fun D σ H h => ?_
  obtain ⟨Z, ρ, Fs, r, rel, hf, h1, h2, h3, h4⟩ := h
  refine ⟨fun n σi Hi => ∃ Zi ρi Fsi, Fin X.K Wb (T ++ Tb) Z ρ Fs σ H Zi ρi Fsi σi Hi ∧ whileN n fc sb ρi = some r, ⟨fuel, Z, ρ, Fs, Fin.refl _ _ rel, hf⟩, fun n σi Hi ⟨Zi, ρi, Fsi, fn, hl⟩ => ?_⟩
  cases n with
  | zero => cases hl
  | succ n =>
    unfold whileN at hl
    obtain ⟨⟨k, ρ1⟩, ht, hl⟩ := Option.bind_eq_some_iff.mp hl
    refine ⟨Zi, ρi, Fsi, k, ρ1, fn.rel, ht, fun H1 Z1 Fs1 rel1 f1 => ?_⟩
    have fn1 := fn.trans (Fin.of rel1 f1)
    cases k with
    | false =>
      rw [if_neg Bool.false_ne_true] at hl
      cases hl
      refine iteF ?_
      exact h1 _ rfl _ _ _ _ (fn1.mono (fun j hj => (List.mem_append.mp hj).elim id fun h => (by cases h)) fun j hj => (List.mem_append.mp hj).elim id fun h => List.mem_append_left _ h)
    | true =>
      rw [if_pos rfl] at hl
      refine iteT ?_
      obtain ⟨q, hb1, hl⟩ := Option.bind_eq_some_iff.mp hl
      have up : ∀ {Z3 ρ3 Fs3 σ3 H3}, Fin X.K Wb Tb Z1 ρ1 Fs1 σi H1 Z3 ρ3 Fs3 σ3 H3 → Fin X.K Wb (T ++ Tb) Z ρ Fs σ H Z3 ρ3 Fs3 σ3 H3 := fun fn3 =>
        (fn1.trans fn3).mono (fun j hj => (List.mem_append.mp hj).elim (fun h => (List.mem_append.mp h).elim id fun h => (by cases h)) id)
          fun j hj => (List.mem_append.mp hj).elim (fun h => (List.mem_append.mp h).elim id fun h => List.mem_append_left _ h) fun h => List.mem_append_right _ h
      refine ⟨fun σ' H' => ∃ Z3 ρ3 Fs3, Fin X.K Wb (T ++ Tb) Z ρ Fs σ H Z3 ρ3 Fs3 σ' H' ∧ whileN n fc sb ρ3 = some r, fun σ' H' h => ⟨n, Nat.lt_succ_self n, h⟩, ?_⟩
      refine ⟨Z1, ρ1, Fs1, q, rel1, hb1, fun ρ3 e σ3 H3 Z3 Fs3 fn3 => ?_, fun ρ3 e σ3 H3 Z3 Fs3 fn3 => ?_, fun ρ3 e σ3 H3 Z3 Fs3 fn3 => ?_, fun d ρ3 e σ3 v3 H3 Z3 Fs3 F fn3 w cf => ?_⟩
      · subst e
        exact ⟨Z3, ρ3, Fs3, up fn3, hl⟩
      · subst e
        cases hl
        exact h1 _ rfl _ _ _ _ (up fn3)
      · subst e
        exact ⟨Z3, ρ3, Fs3, up fn3, hl⟩
      · subst e
        cases hl
        refine h4 _ _ rfl _ _ _ _ _ _ (up fn3) w ?_
        exact (Cf.late fn1.frm cf).mono fun j hj => (List.mem_append.mp hj).elim (fun h => (List.mem_append.mp h).elim id fun h => List.mem_append_left _ h) fun h => List.mem_append_right _ h

/-! ### what is walked: lists and tuples -/
def itemsOf : D → Option (List D)
  | .tup l => if D.noOwnL l = true then some l else none
  | .lst _ l => if D.noOwnL l = true then some l else none
  | .scr l => if D.noOwnL l = true then some l else none
  | .xt l => if D.noOwnL l = true then some l else none
  | _ => none
def iSeq (f : M D) : M (List D) := fun ρ => (f ρ).bind fun p => (itemsOf p.1).bind fun l => some (l, p.2)
def tSq (K : PySem.W.Frag) (tl : TE) : TI := fun σ H Rk => tl σ H fun x H1 => ∃ a, x = .ref a ∧ ((∃ xs, SqL K H1 a xs ∧ Rk (Itl K a) H1) ∨ (∃ xs, SqT K H1 a xs ∧ Rk (Itt K a) H1))
theorem pi_sq {l : Expr} {tl : TE} (hl : PE X l tl) : PI X tg l (tSq X.K tl) := by
  refine ⟨fun pins s σ H Rk I h => ?_⟩
  refine thn (hl.run pins s σ H _ I h) fun v s1 ⟨x, H1, I1, r1, q1⟩ => ?_
  obtain ⟨a, e, q⟩ := q1
  subst e
  cases r1
  rcases q with ⟨xs, hq, q⟩ | ⟨xs, hq, q⟩
  · obtain ⟨its, rv, p, hz⟩ := I1.list hq
    refine wpAny_pyIter_list p.isList ?_
    refine ⟨s1.heap.objs.size, [s1.heap.objs.size], _, _, H1, rfl, I1.kept (t' := s1.toks) fun b o e => Heap.get?_push_of_some _ e, turn_list a _, ⟨_, Heap.get?_push_size _ rfl, rfl, rfl⟩, fun b hb => ?_, q⟩
    have e : b = s1.heap.objs.size := by simpa using hb
    subst e
    exact I1.fpOk (Nat.le_refl _) (I1.hok.fresh (Nat.le_refl _))
  · obtain ⟨its, rv, p, hz⟩ := I1.tuple hq
    refine wpAny_pyIter_tuple (show s1.heap.IsTuple a its.toArray from p) ?_
    refine ⟨s1.heap.objs.size, [s1.heap.objs.size], _, _, H1, rfl, I1.kept (t' := s1.toks) fun b o e => Heap.get?_push_of_some _ e, turn_tuple a _, ⟨_, Heap.get?_push_size _ rfl, rfl, rfl⟩, fun b hb => ?_, q⟩
    have e : b = s1.heap.objs.size := by simpa using hb
    subst e
    exact I1.fpOk (Nat.le_refl _) (I1.hok.fresh (Nat.le_refl _))
/-- data that is a list (at a) of these items -/
theorem R.lst_at {K : PySem.W.Frag} {Z : Addr → Prop} {H : Hp} {o : Bool} {ds : List D} {v : V} {F : List Addr} (r : R K Z H (.lst o ds) v F) : ∃ a vs G, v = .ref a ∧ SqL K H a vs ∧ Rs K Z H ds vs G ∧ ∀ b ∈ G, b ∈ F := by
  cases r with
  | own h rs => exact ⟨_, _, _, rfl, SqL.of h, rs, fun b hb => List.mem_cons_of_mem _ hb⟩
  | fzn h z rs => exact ⟨_, _, _, rfl, SqL.of h, rs, fun b hb => hb⟩
theorem R.scr_at {K : PySem.W.Frag} {Z : Addr → Prop} {H : Hp} {ds : List D} {v : V} {F : List Addr} (r : R K Z H (.scr ds) v F) : ∃ a vs, v = .ref a ∧ F = [] ∧ SqL K H a vs ∧ Rs K Z H ds vs [] := by
  cases r with
  | knw h rs => exact ⟨_, _, rfl, rfl, h.l, rs⟩
theorem R.scr_keep {K : PySem.W.Frag} {Z Z' : Addr → Prop} {H H' : Hp} {ds : List D} {v : V} {F : List Addr} (r : R K Z H (.scr ds) v F) :
    ∃ a vs, v = .ref a ∧ SqL K H a vs ∧ ds.length = vs.length ∧ ∀ (M Z2 : Addr → Prop) (H2 : Hp), Keep M H H2 → (∀ b ∈ F, ¬ M b) → (∀ b, Z b → ¬ M b) → (∀ b, Z b → Z2 b) → SqL K H2 a vs ∧ Rs K Z2 H2 ds vs [] := by
  cases r with
  | knw h rs => exact ⟨_, _, rfl, h.l, rs.length, fun M Z2 H2 k hf hz hzz => ⟨(k.sqf h).l, rs.keep k hzz hz fun b hb => (by cases hb)⟩⟩
/-- .. and stays so -/
theorem R.lst_keep {K : PySem.W.Frag} {Z Z' : Addr → Prop} {H H' : Hp} {o : Bool} {ds : List D} {v : V} {F : List Addr} (r : R K Z H (.lst o ds) v F) (hn : D.noOwnL ds = true) :
    ∃ a vs, v = .ref a ∧ SqL K H a vs ∧ ds.length = vs.length ∧ ∀ (M Z2 : Addr → Prop) (H2 : Hp), Keep M H H2 → (∀ b ∈ F, ¬ M b) → (∀ b, Z b → ¬ M b) → (∀ b, Z b → Z2 b) → SqL K H2 a vs ∧ Rs K Z2 H2 ds vs [] := by
  cases r with
  | own h rs =>
    have e := rs.no hn
    subst e
    exact ⟨_, _, rfl, SqL.of h, rs.length, fun M Z2 H2 k hf hz hzz => ⟨SqL.of (k.out _ _ h (hf _ List.mem_cons_self)), rs.keep k hzz hz fun b hb => (by cases hb)⟩⟩
  | fzn h z rs => exact ⟨_, _, rfl, SqL.of h, rs.length, fun M Z2 H2 k hf hz hzz => ⟨SqL.of (k.out _ _ h (hz _ z)), rs.keep k hzz hz fun b hb => (by cases hb)⟩⟩
theorem R.tup_keep {K : PySem.W.Frag} {Z Z' : Addr → Prop} {H H' : Hp} {ds : List D} {v : V} {F : List Addr} (r : R K Z H (.tup ds) v F) (hn : D.noOwnL ds = true) :
    ∃ a vs, v = .ref a ∧ SqT K H a vs ∧ ds.length = vs.length ∧ ∀ (M Z2 : Addr → Prop) (H2 : Hp), Keep M H H2 → (∀ b, Z b → ¬ M b) → (∀ b, Z b → Z2 b) → SqT K H2 a vs ∧ Rs K Z2 H2 ds vs [] := by
  obtain ⟨a, vs, e, h, rs⟩ := r.tup_inv
  have e2 := rs.no hn
  subst e2
  exact ⟨_, _, e, h, rs.length, fun M Z2 H2 k hz hzz => ⟨k.sqt h, rs.keep k hzz hz fun b hb => (by cases hb)⟩⟩
theorem R.xt_keep {K : PySem.W.Frag} {Z Z' : Addr → Prop} {H H' : Hp} {ds : List D} {v : V} {F : List Addr} (r : R K Z H (.xt ds) v F) (hn : D.noOwnL ds = true) :
    ∃ a vs, v = .ref a ∧ SqT K H a vs ∧ ds.length = vs.length ∧ ∀ (M Z2 : Addr → Prop) (H2 : Hp), Keep M H H2 → (∀ b, Z b → ¬ M b) → (∀ b, Z b → Z2 b) → SqT K H2 a vs ∧ Rs K Z2 H2 ds vs [] := by
  obtain ⟨a, vs, e, h, rs⟩ := r.xt_inv
  have e2 := rs.no hn
  subst e2
  exact ⟨_, _, e, h, rs.length, fun M Z2 H2 k hz hzz => ⟨k.sqt h, rs.keep k hzz hz fun b hb => (by cases hb)⟩⟩
theorem Rs.at0 {K : PySem.W.Frag} {Z : Addr → Prop} {H : Hp} {ds : List D} {vs : List V} {i : Nat} {d : D} {x : V} (rs : Rs K Z H ds vs []) (hd : ds[i]? = some d) (hx : vs[i]? = some x) : R K Z H d x [] := by
  obtain ⟨v, G, h1, h2, h3⟩ := rs.get hd
  rw [hx] at h1
  cases h1
  cases G with
  | nil => exact h2
  | cons a r => exact absurd (h3 a List.mem_cons_self) (by simp)
theorem stay_list {K : PySem.W.Frag} {Z : Addr → Prop} {H : Hp} {F : List Addr} {ds : List D} {a : Addr} {vs : List V} (st : ∀ (M Z2 : Addr → Prop) (H2 : Hp), Keep M H H2 → (∀ b ∈ F, ¬ M b) → (∀ b, Z b → ¬ M b) → (∀ b, Z b → Z2 b) → SqL K H2 a vs ∧ Rs K Z2 H2 ds vs []) :
    Stay K Z H F (fun h => SqL K h a vs) (YAt vs) ds := fun M Z2 H2 k hf hz hzz => by
  obtain ⟨q1, q2⟩ := st M Z2 H2 k hf hz hzz
  refine ⟨q1, fun i x h d y hd => ?_⟩
  obtain ⟨rfl, hx⟩ := y
  exact ⟨Keep.refl _ _, q2.at0 hd hx⟩
theorem stay_tup {K : PySem.W.Frag} {Z : Addr → Prop} {H : Hp} {F : List Addr} {ds : List D} {a : Addr} {vs : List V} (st : ∀ (M Z2 : Addr → Prop) (H2 : Hp), Keep M H H2 → (∀ b, Z b → ¬ M b) → (∀ b, Z b → Z2 b) → SqT K H2 a vs ∧ Rs K Z2 H2 ds vs []) :
    Stay K Z H F (fun h => SqT K h a vs) (YAt vs) ds := fun M Z2 H2 k hf hz hzz => by
  obtain ⟨q1, q2⟩ := st M Z2 H2 k hz hzz
  refine ⟨q1, fun i x h d y hd => ?_⟩
  obtain ⟨rfl, hx⟩ := y
  exact ⟨Keep.refl _ _, q2.at0 hd hx⟩
theorem piv_seq (h : PEV X T O x e f) : PIV X T O tg e (iSeq f) := by
  refine PI.imp (pi_sq h) fun σ H Rk h => ?_
  obtain ⟨Z, ρ, Fs, items, ρ', rel, hf, q⟩ := h
  unfold iSeq at hf
  obtain ⟨⟨d, ρ1⟩, h1, hf⟩ := Option.bind_eq_some_iff.mp hf
  obtain ⟨l, h2, hf⟩ := Option.bind_eq_some_iff.mp hf
  cases hf
  refine ⟨Z, ρ, Fs, d, _, rel, h1, fun v H' Z' Fs' F rel' f' w c => ?_⟩
  have w0 := w.r
  cases d <;> simp only [itemsOf] at h2 <;> try (cases h2)
  · split at h2
    · rename_i hn
      cases h2
      obtain ⟨a, vs, e, hq, hl, st⟩ := w.r.tup_keep (Z' := Z') (H' := H') hn
      refine ⟨a, e, .inr ⟨vs, hq, ?_⟩⟩
      have wk := walk_tup (K := X.K) (a := a) (xs := vs)
      rw [← hl] at wk
      exact q _ H' Z' Fs' F _ _ rel' f' wk w.ori (stay_tup st)
    · cases h2
  · split at h2
    · rename_i hn
      cases h2
      obtain ⟨a, vs, e, hq, hl, st⟩ := w.r.lst_keep (Z' := Z') (H' := H') hn
      refine ⟨a, e, .inl ⟨vs, hq, ?_⟩⟩
      have wk := walk_list (K := X.K) (a := a) (xs := vs)
      rw [← hl] at wk
      exact q _ H' Z' Fs' F _ _ rel' f' wk w.ori (stay_list st)
    · cases h2
  · split at h2
    · rename_i hn
      cases h2
      obtain ⟨a, vs, e, hq, hl, st⟩ := w.r.scr_keep (Z' := Z') (H' := H')
      refine ⟨a, e, .inl ⟨vs, hq, ?_⟩⟩
      have wk := walk_list (K := X.K) (a := a) (xs := vs)
      rw [← hl] at wk
      exact q _ H' Z' Fs' F _ _ rel' f' wk w.ori (stay_list st)
    · cases h2
  · split at h2
    · rename_i hn
      cases h2
      obtain ⟨a, vs, e, hq, hl, st⟩ := w.r.xt_keep (Z' := Z') (H' := H') hn
      refine ⟨a, e, .inr ⟨vs, hq, ?_⟩⟩
      have wk := walk_tup (K := X.K) (a := a) (xs := vs)
      rw [← hl] at wk
      exact q _ H' Z' Fs' F _ _ rel' f' wk w.ori (stay_tup st)
    · cases h2

/-! ### ranges -/
def rgItems (lo : Int) (n : Nat) : List D := (List.range n).map fun i => .int (lo + (i : Nat))
def okR (i : Int) : Bool := decide (-1000000000 ≤ i) && decide (i ≤ 1000000000)
def iRg1 (fr : M (List D)) : M (List D) := fun ρ => (fr ρ).bind fun p => match p.1 with
  | [.int j] => if okR j = true then some (rgItems 0 j.toNat, p.2) else none
  | _ => none
def iRg2 (fr : M (List D)) : M (List D) := fun ρ => (fr ρ).bind fun p => match p.1 with
  | [.int i, .int j] => if (okR i && okR j) = true then some (rgItems i (j - i).toNat, p.2) else none
  | _ => none
theorem okR_of {i : Int} (h : okR i = true) : -1000000000 ≤ i ∧ i ≤ 1000000000 := by
  unfold okR at h
  rw [Bool.and_eq_true] at h
  exact ⟨of_decide_eq_true h.1, of_decide_eq_true h.2⟩
theorem stay_range {K : PySem.W.Frag} {Z : Addr → Prop} {H : Hp} {lo : Int} {n : Nat} : Stay K Z H [] (fun _ => True) (YFn fun i => .int (lo + i)) (rgItems lo n) := fun M Z2 H2 k hf hz hzz => by
  refine ⟨trivial, fun i x h d y hd => ?_⟩
  obtain ⟨rfl, rfl⟩ := y
  unfold rgItems at hd
  rw [List.getElem?_map] at hd
  cases e : (List.range n)[i]? with
  | none => rw [e] at hd; cases hd
  | some k =>
    rw [e] at hd
    cases hd
    have : k = i := by
      rw [List.getElem?_range] at e
      · cases e; rfl
      · have := (List.getElem?_eq_some_iff.mp e).1
        simpa using this
    subst this
    exact ⟨Keep.refl _ _, .int _⟩
theorem Rs.ints1 {K : PySem.W.Frag} {Z : Addr → Prop} {H : Hp} {i : Int} {vs : List V} {F : List Addr} (rs : Rs K Z H [.int i] vs F) : vs = [.int i] := by
  obtain ⟨v, ws, F1, F2, rfl, rfl, r, rs⟩ := rs.uncons
  cases rs
  cases r
  rfl
theorem Rs.ints2 {K : PySem.W.Frag} {Z : Addr → Prop} {H : Hp} {i j : Int} {vs : List V} {F : List Addr} (rs : Rs K Z H [.int i, .int j] vs F) : vs = [.int i, .int j] := by
  obtain ⟨v, ws, F1, F2, rfl, rfl, r, rs⟩ := rs.uncons
  have e := rs.ints1
  subst e
  cases r
  rfl
theorem rgItems_length (lo : Int) (n : Nat) : (rgItems lo n).length = n := by unfold rgItems; rw [List.length_map, List.length_range]
theorem piv_range1 {a : Expr} {p : Pos} (hg : Gl X "range") (hm : X.mg "range" = none) (ha : PAV X T O x [a] fr) (hs : starEach [a] X.env = [(false, eval a X.env)] := by rfl) : PIV X T [] tg (.Call (.Name "range" p) [a] [] pos) (iRg1 fr) := by
  refine PI.imp (pi_range1 hg hm ha hs) fun σ H Rk h => ?_
  obtain ⟨Z, ρ, Fs, items, ρ', rel, hf, q⟩ := h
  unfold iRg1 at hf
  obtain ⟨⟨ds, ρ1⟩, h1, hf⟩ := Option.bind_eq_some_iff.mp hf
  split at hf
  · rename_i j e
    split at hf
    · rename_i hok
      cases hf
      obtain ⟨q1, q2⟩ := okR_of hok
      refine ⟨Z, ρ, Fs, ds, _, rel, h1, fun vs H' Z' Fs' F rel' f' w c => ?_⟩
      have e : ds = [.int j] := e
      subst e
      refine ⟨j, w.r.ints1, by omega, by omega, ?_⟩
      have wk := walk_range (lo := 0) (n := j.toNat)
      refine q _ H' Z' Fs' [] _ _ rel' f' ?_ (fun _ _ h => (by cases h)) stay_range
      rw [rgItems_length]
      exact wk
    · cases hf
  · cases hf
theorem piv_range2 {a b : Expr} {p : Pos} (hg : Gl X "range") (hm : X.mg "range" = none) (ha : PAV X T O x [a, b] fr) (hs : starEach [a, b] X.env = [(false, eval a X.env), (false, eval b X.env)] := by rfl) (hs2 : starEach [b] X.env = [(false, eval b X.env)] := by rfl) :
    PIV X T [] tg (.Call (.Name "range" p) [a, b] [] pos) (iRg2 fr) := by
  refine PI.imp (pi_range2 hg hm ha hs hs2) fun σ H Rk h => ?_
  obtain ⟨Z, ρ, Fs, items, ρ', rel, hf, q⟩ := h
  unfold iRg2 at hf
  obtain ⟨⟨ds, ρ1⟩, h1, hf⟩ := Option.bind_eq_some_iff.mp hf
  split at hf
  · rename_i i j e
    split at hf
    · rename_i hok
      cases hf
      rw [Bool.and_eq_true] at hok
      obtain ⟨q1, q2⟩ := okR_of hok.1
      obtain ⟨q3, q4⟩ := okR_of hok.2
      refine ⟨Z, ρ, Fs, ds, _, rel, h1, fun vs H' Z' Fs' F rel' f' w c => ?_⟩
      have e : ds = [.int i, .int j] := e
      subst e
      refine ⟨i, j, w.r.ints2, ⟨by omega, by omega, by omega, by omega⟩, ?_⟩
      have wk := walk_range (lo := i) (n := (j - i).toNat)
      refine q _ H' Z' Fs' [] _ _ rel' f' ?_ (fun _ _ h => (by cases h)) stay_range
      rw [rgItems_length]
      exact wk
    · cases hf
  · cases hf
end
end Vl

namespace Vl
open PySem PySem.Spec PyProof.Rows L2

/-! ### defs -/
abbrev FD := List D → Option (D × List D)
/-- the promise of a def: its first m parameters may be changed; F tells the answer and what these become -/
def spV (K : PySem.W.Frag) (np m : Nat) (F : FD) : Sp := fun vs H Q _ => ∃ Z ds Gs d es, Rel K Z (ds.map some) (vs.map some) H Gs ∧ (∀ i, m ≤ i → Gs i = []) ∧ ds.length = np ∧ m ≤ np ∧ F ds = some (d, es) ∧ es.length = m ∧
  ∀ v H' Z' Gs' F', Rel K Z' ((es ++ ds.drop m).map some) (vs.map some) H' Gs' → Frm (List.range m) Z (ds.map some) Gs H Z' ((es ++ ds.drop m).map some) Gs' H' → Val K Z' H' Gs' [] true d v F' → Cf (List.range m) Gs H true F' → Q v H'
/-- a def's run: np parameters, n slots -/
def outs : Nat → Env → Option (List D)
  | 0, _ => some []
  | m + 1, ρ => (outs m ρ).bind fun l => (Env.at ρ m).bind fun d => some (l ++ [d])
def runF (np m n : Nat) (b : MS) : FD := fun ds => if ds.length = np then (b (ds.map some ++ List.replicate (n - np) none)).bind fun r => match r with
  | .rt d ρ => (outs m ρ).bind fun es => some (d, es)
  | .nx ρ => (outs m ρ).bind fun es => some (.non, es)
  | _ => none
  else none
theorem outs_len : ∀ {m : Nat} {ρ : Env} {es : List D}, outs m ρ = some es → es.length = m
  | 0, _, _, h => by cases h; rfl
  | m + 1, ρ, es, h => by
    unfold outs at h
    obtain ⟨l, h1, h⟩ := Option.bind_eq_some_iff.mp h
    obtain ⟨d, h2, h⟩ := Option.bind_eq_some_iff.mp h
    cases h
    rw [List.length_append, outs_len h1]
    rfl
theorem outs_get : ∀ {m : Nat} {ρ : Env} {es : List D} {i : Nat}, outs m ρ = some es → i < m → ∃ d, es[i]? = some d ∧ Env.at ρ i = some d
  | 0, _, _, _, _, h => absurd h (by omega)
  | m + 1, ρ, es, i, h, hi => by
    unfold outs at h
    obtain ⟨l, h1, h⟩ := Option.bind_eq_some_iff.mp h
    obtain ⟨d, h2, h⟩ := Option.bind_eq_some_iff.mp h
    cases h
    have hl := outs_len h1
    by_cases q : i < m
    · obtain ⟨d', h3, h4⟩ := outs_get h1 q
      exact ⟨d', by rw [List.getElem?_append_left (by omega)]; exact h3, h4⟩
    · have e : i = m := by omega
      subst e
      exact ⟨d, by rw [List.getElem?_append_right (by omega), hl, Nat.sub_self]; rfl, h2⟩
abbrev FnV (P : Program) (w : World) (K : PySem.W.Frag) (mg : Str → Option Value) (base : Heap) (k : Nat) (f : Addr) (fd : FuncData) (ps : List Str) (m : Nat) (F : FD) : Prop := FnOk P w K mg base CX0 k f fd ps (spV K ps.length m F)

section
variable {P : Program} {w : World} {K : PySem.W.Frag} {mg : Str → Option Value} {base : Heap} {W T : List Nat} {b : MS}
theorem spV_len {np m : Nat} {F : FD} {vs : List V} {H : Hp} {Q : VK} {E : XK} (h : spV K np m F vs H Q E) : vs.length = np := by
  obtain ⟨Z, ds, Gs, d, es, rel, _, hl, _⟩ := h
  have e := rel.len
  rw [List.length_map, List.length_map] at e
  omega
/-- THE RULE for a def: its body -/
theorem fnv {y qual : Str} {st : Stmt} {f : Addr} {fd : FuncData} {N ps : List Str} {k m : Nat} (F : Fun K y qual st f fd) (S : FnScope N ps (defScope st)) (hm : m ≤ ps.length) (hW : ∀ i, i < m → i ∉ W)
    (hbody : ∀ (cdv : Value) (A : Around) (outer : List PySem.Env) (s : Shared) (H : Hp) (E : XK), Room k (A.deeper (envOfC qual (defScope st) s.heap.objs.size f cdv)) → PSsV (cxOf CX0 P w K mg base N qual (defScope st) f cdv A outer s H E).nox W T (defBody st) b) :
    FnV P w K mg base (k + 1) f fd ps m (runF ps.length m N.length b) := by
  refine F.ok S (fun vs H Q E h => spV_len h) fun cdv A outer s H vs Q E hr h => ⟨_, hbody cdv A outer s H E hr, ?_⟩
  have hvl := spV_len h
  obtain ⟨Z, ds, Gs, d, es, rel, hg, hl, hm', hf, he, q⟩ := h
  unfold runF at hf
  rw [if_pos hl] at hf
  obtain ⟨r, hb, hf⟩ := Option.bind_eq_some_iff.mp hf
  have hpl : ps.length ≤ N.length := by have := congrArg List.length S.pre; rw [List.length_take] at this; omega
  have relS : Rel K Z (ds.map some ++ List.replicate (N.length - ps.length) none) (L2.start N vs) H Gs := by
    refine ⟨fun i d e => ?_, rel.nd, rel.dj, rel.nz, rel.zt, rel.ft, ?_⟩
    · by_cases hi : i < ds.length
      · rw [List.getElem?_append_left (by rw [List.length_map]; exact hi)] at e
        obtain ⟨v, h1, h2⟩ := rel.at_ i d e
        refine ⟨v, ?_, h2⟩
        unfold L2.start
        rw [List.getElem?_append_left (by rw [List.length_map]; omega)]
        exact h1
      · rw [List.getElem?_append_right (by rw [List.length_map]; omega), List.getElem?_replicate] at e
        split at e <;> cases e
    · unfold L2.start
      rw [List.length_append, List.length_append, List.length_map, List.length_map, List.length_replicate, List.length_replicate]
      omega
  have fin : ∀ {d0 : D} {ρ' : Env} {σ' : L2.St} {v : V} {H' : Hp} {Z' : Addr → Prop} {Fs' : Ft} {F' : List Addr}, Fin K W T Z (ds.map some ++ List.replicate (N.length - ps.length) none) Gs (L2.start N vs) H Z' ρ' Fs' σ' H' → Val K Z' H' Fs' [] true d0 v F' → Cf T Gs H true F' →
      ((outs m ρ').bind fun es => some (d0, es)) = some (d, es) → Q v H' := fun {d0 ρ' σ' v H' Z' Fs' F'} fn wv cf ho => by
    obtain ⟨es', h1, ho⟩ := Option.bind_eq_some_iff.mp ho
    cases ho
    have own : ∀ {a}, (∃ j ∈ T, a ∈ Gs j) → ∃ j ∈ List.range m, a ∈ Gs j := fun {a} ⟨j, hj, ha⟩ => by
      refine ⟨j, List.mem_range.mpr ?_, ha⟩
      refine Nat.lt_of_not_le fun hle => ?_
      rw [hg j hle] at ha
      cases ha
    have hG' : ∀ i, i < m → Fs' i = (fun j => if j < m then Fs' j else []) i := fun i hi => by simp [hi]
    refine q v H' Z' (fun j => if j < m then Fs' j else []) F' ⟨fun i d e => ?_, fun i => ?_, fun i j a h1 h2 => ?_, fun i a h => ?_, fn.rel.zt, fun i a h => ?_, ?_⟩ ⟨fun j hj => ?_, fn.frm.keep.mono fun a h => own h, fun j hj a ha => ?_, fun a h => ?_, fn.frm.zz, ?_⟩
      ⟨wv.r, fun j a h1 h2 => ?_, wv.exc⟩ fun h a ha => (cf h a ha).imp own id
    · by_cases hi : i < m
      · obtain ⟨d', h3, h4⟩ := outs_get h1 hi
        have e' : d' = d := by
          rw [List.getElem?_map, List.getElem?_append_left (by omega), h3] at e
          cases e; rfl
        subst e'
        obtain ⟨v', h5, h6⟩ := fn.rel.at_ i d' (Env.at_some h4)
        refine ⟨v', ?_, by simp only [if_pos hi]; exact h6⟩
        rw [fn.sg i (hW i hi)] at h5
        unfold L2.start at h5
        rw [List.getElem?_append_left (by rw [List.length_map]; omega)] at h5
        exact h5
      · have e2 : (ds.map some)[i]? = some (some d) := by
          rw [List.getElem?_map, List.getElem?_append_right (by omega), List.getElem?_drop, show m + (i - es.length) = i by omega, ← List.getElem?_map] at e
          exact e
        obtain ⟨v', h5, h6⟩ := rel.at_ i d e2
        refine ⟨v', h5, ?_⟩
        rw [hg i (by omega)] at h6
        simp only [if_neg hi]
        exact h6.keep fn.frm.keep fn.frm.zz (fun a z ⟨j, hj, ha⟩ => rel.nz j a ha z) fun a h => (by cases h)
    · by_cases hi : i < m
      · simp only [if_pos hi]; exact fn.rel.nd i
      · simp only [if_neg hi]; exact List.nodup_nil
    · by_cases hi : i < m
      · by_cases hj : j < m
        · simp only [if_pos hi] at h1
          simp only [if_pos hj] at h2
          exact fn.rel.dj i j a h1 h2
        · simp [hj] at h2
      · simp [hi] at h1
    · by_cases hi : i < m
      · simp only [if_pos hi] at h; exact fn.rel.nz i a h
      · simp [hi] at h
    · by_cases hi : i < m
      · simp only [if_pos hi] at h; exact fn.rel.ft i a h
      · simp [hi] at h
    · rw [List.length_map, List.length_append, List.length_drop, List.length_map]
      omega
    · have hj' : ¬ j < m := fun h => hj (List.mem_range.mpr h)
      refine ⟨by simp only [if_neg hj']; exact (hg j (by omega)).symm, ?_⟩
      rw [List.getElem?_map, List.getElem?_append_right (by omega), List.getElem?_drop, show m + (j - es.length) = j by omega, ← List.getElem?_map]
    · have hj' : j < m := List.mem_range.mp hj
      simp only [if_pos hj'] at ha
      by_cases hT : j ∈ T
      · exact (fn.frm.c1 j hT a ha).imp own id
      · rw [(fn.frm.sub j hT).1] at ha
        exact .inl ⟨j, hj, ha⟩
    · rcases fn.frm.c3 a h with z | z | z
      · exact .inl z
      · exact .inr (.inl (own z))
      · exact .inr (.inr z)
    · rw [List.length_map, List.length_append, List.length_drop, List.length_map]
      omega
    · by_cases hj : j < m
      · simp only [if_pos hj] at h2
        exact wv.ori j a h1 h2
      · simp [hj] at h2
  refine ⟨Z, _, Gs, r, relS, hb, fun ρ' e σ' H' Z' Fs' fn => ?_, fun ρ' e σ' H' Z' Fs' fn => ?_, fun ρ' e σ' H' Z' Fs' fn => ?_, fun d0 ρ' e σ' v H' Z' Fs' F' fn wv cf => ?_⟩
  · subst e
    exact fin fn ⟨.non, fun _ _ h => (by cases h), fun _ => ⟨List.nodup_nil, fun _ h => (by cases h)⟩⟩ Cf.nil hf
  · subst e
    cases hf
  · subst e
    cases hf
  · subst e
    exact fin fn wv cf hf
theorem FnV.imp {k : Nat} {f : Addr} {fd : FuncData} {ps : List Str} {m : Nat} {F G : FD} (h : FnV P w K mg base k f fd ps m F) (i : ∀ ds r, G ds = some r → F ds = some r) : FnV P w K mg base k f fd ps m G :=
  FnOk.imp h fun vs H Q E ⟨Z, ds, Gs, d, es, rel, hg, hl, hm, hf, q⟩ => ⟨Z, ds, Gs, d, es, rel, hg, hl, hm, i _ _ hf, q⟩
end

/-! ### calls -/
/-- a call of a def that changes none of its arguments -/
def fCall (F : FD) (fr : M (List D)) : M D := fun ρ => (fr ρ).bind fun p => (F (D.frzL p.1)).bind fun r => if (r.1.noFz || D.noOwnL p.1) = true then some (r.1, p.2) else none
/-- .. that changes its first one, the slot i -/
def fCallM (F : FD) (i : Nat) (fr : M (List D)) : M D := fun ρ => (Env.at ρ i).bind fun _ => (fr ρ).bind fun p => (Env.at p.2 i).bind fun o => if D.noOwnL p.1 = true then (F (o :: p.1)).bind fun r => match r.2 with
    | [o'] => some (r.1, p.2.set i (some o'))
    | _ => none
  else none
section
variable {X : Cx} {T T1 O W : List Nat} {x : Bool} {e : Expr} {es : List Expr} {fr : M (List D)} {pos : Pos}
theorem frzL_length : ∀ l : List D, (D.frzL l).length = l.length
  | [] => rfl
  | _ :: r => congrArg (· + 1) (frzL_length r)
theorem rel_args {K : PySem.W.Frag} {Z' : Addr → Prop} {H : Hp} {ds : List D} {vs : List V} (r : Rs K Z' H ds vs []) (zt : ∀ a, Z' a → H a ≠ none) : Rel K Z' (ds.map some) (vs.map some) H (fun _ => []) := by
  refine ⟨fun i d e => ?_, fun _ => List.nodup_nil, fun _ _ _ h => (by cases h), fun _ _ h => (by cases h), zt, fun _ _ h => (by cases h), by rw [List.length_map, List.length_map, r.length]⟩
  rw [List.getElem?_map] at e
  cases q : ds[i]? with
  | none => rw [q] at e; cases e
  | some d' =>
    rw [q] at e
    cases e
    obtain ⟨v, G, h1, h2, h3⟩ := r.get q
    refine ⟨v, by rw [List.getElem?_map, h1]; rfl, ?_⟩
    cases G with
    | nil => exact h2
    | cons a r => exact absurd (h3 a List.mem_cons_self) (by simp)
theorem tv_call {F : FD} {np : Nat} {sp : Sp} (hsp : sp = spV X.K np 0 F) (hnp : ∀ ds r, F ds = some r → ds.length = np ∧ r.2.length = 0) {σ : L2.St} {H : Hp} {Q : VK} {E : XK} (h : tV X.K T [] true (fCall F fr) σ H Q) : tCall sp [] E (tVL X.K T O x fr) σ H Q := by
  subst hsp
  obtain ⟨Z, ρ, Fs, d, ρ', rel, hf, q⟩ := h
  unfold fCall at hf
  obtain ⟨⟨ds, ρ1⟩, h1, hf⟩ := Option.bind_eq_some_iff.mp hf
  obtain ⟨⟨d', es'⟩, h2, hf⟩ := Option.bind_eq_some_iff.mp hf
  split at hf
  · rename_i hok
    cases hf
    refine ⟨Z, ρ, Fs, ds, _, rel, h1, fun vs H1 Z1 Fs1 F1 rel1 f1 w1 c1 => ?_⟩
    show spV X.K np 0 F (vs ++ []) H1 Q E
    rw [List.append_nil]
    have zt : ∀ a, (Z1 a ∨ a ∈ F1) → H1 a ≠ none := fun a h => h.elim (rel1.zt a) (w1.r.tr a)
    have r2 : Rs X.K (fun a => Z1 a ∨ a ∈ F1) H1 (D.frzL ds) vs [] := w1.r.freeze (fun _ h => .inl h) fun a h => .inr h
    obtain ⟨hl1, hl2⟩ := hnp _ _ h2
    refine ⟨fun a => Z1 a ∨ a ∈ F1, D.frzL ds, fun _ => [], d', es', rel_args r2 zt, fun _ _ => rfl, hl1, Nat.zero_le _, h2, hl2, fun v H' Z' Gs' F' rel2 f2 w2 c2 => ?_⟩
    have k0 : Keep M0 H1 H' := f2.keep.mono fun a ⟨j, hj, _⟩ => (by simp at hj)
    have nw : ∀ a ∈ F', H1 a = none := fun a ha => (c2 rfl a ha).elim (fun ⟨j, hj, _⟩ => (by simp at hj)) id
    have f3 := f1.trans (Frm.pureT [] k0)
    rw [List.append_nil] at f3
    rw [Bool.or_eq_true] at hok
    rcases hok with hn | hn
    · exact q v H' Z1 Fs1 F' (rel1.keep0 k0) f3 (Val.new rel1 (w2.r.any hn) (w2.exc rfl).1 nw) (Cf.new f1.keep nw)
    · have e := w1.r.no hn
      subst e
      -- the known set may have grown by new things
      have zz : ∀ a, Z' a → Z1 a ∨ H1 a = none := fun a h => by
        rcases f2.c3 a h with (z | z) | ⟨j, hj, _⟩ | z
        · exact .inl z
        · cases z
        · simp at hj
        · exact .inr z
      have up : ∀ a, Z1 a → Z' a := fun a z => f2.zz a (.inl z)
      have rel3 : Rel X.K Z' ρ1 σ H' Fs1 := ⟨fun i d e => let ⟨v, h1, h2⟩ := rel1.at_ i d e; ⟨v, h1, h2.keep k0 up (fun _ _ h => h) fun _ _ h => h⟩, rel1.nd, rel1.dj,
        fun i a h z => (zz a z).elim (rel1.nz i a h) (rel1.ft i a h), rel2.zt, fun i a h => k0.dom a (rel1.ft i a h), rel1.len⟩
      have f4 : Frm T Z ρ Fs H Z' ρ1 Fs1 H' := ⟨f3.sub, f3.keep, f3.c1, fun a h => (zz a h).elim (f3.c3 a) fun z => .inr (.inr (f1.keep.back z)), fun a h => up a (f1.zz a h), f3.len⟩
      exact q v H' Z' Fs1 F' rel3 f4 ⟨w2.r, fun j a h1 h2 => absurd (nw a h1) (rel1.ft j a h2), w2.exc⟩ (Cf.new f1.keep nw)
  · cases hf
theorem pev_call {k : Nat} {f : Addr} {fd : FuncData} {ps : List Str} {y : Str} {p : Pos} {F : FD} (G : FnV X.prog X.w X.K X.mg X.base k f fd ps 0 F) (hnp : ∀ ds r, F ds = some r → ds.length = ps.length ∧ r.2.length = 0) (hr : Room k X.A) (hg : Gl X y) (hm : X.mg y = some (.ref f)) (hk : PySem.W.keepIn X.K (.ref f) = true)
    (hb : Binds X.K fd ps []) (ha : PAV X T O x (e :: es) fr) (hdb : (y == ("__debug__" : Str)) = false := by decide) (he : starEach (e :: es) X.env = (false, eval e X.env) :: starEach es X.env := by rfl) (hpl : (backTo pos (starEach es X.env)).any (·.1) = false := by rfl) :
    PEV X T [] true (.Call (.Name y p) (e :: es) [] pos) (fCall F fr) :=
  PE.imp (pe_call G hr hg hm hk hb .nil pass0 ha hdb he hpl) fun _ _ _ h => tv_call rfl hnp h
theorem pev_callM (i : Nat) {k : Nat} {f : Addr} {fd : FuncData} {ps : List Str} {y z : Str} {p pz : Pos} {F : FD} (G : FnV X.prog X.w X.K X.mg X.base k f fd ps 1 F) (hnp : ∀ ds r, F ds = some r → ds.length = ps.length ∧ r.2.length = 1) (hp1 : 1 ≤ ps.length) (hr : Room k X.A) (hg : Gl X y) (hm : X.mg y = some (.ref f)) (hk : PySem.W.keepIn X.K (.ref f) = true)
    (hb : Binds X.K fd ps []) (ha : PAV X T O x es fr) (hN : X.N[i]? = some z := by rfl) (hv : Vis X.env.scope z := by first | exact Or.inl rfl | exact Or.inr (Or.inl rfl) | exact Or.inr (Or.inr rfl)) (hd : (z == ("__debug__" : Str)) = false := by decide) (hcd : (z == ("__classdict__" : Str)) = false := by decide)
    (hdb : (y == ("__debug__" : Str)) = false := by decide) (he : starEach (.Name z pz :: es) X.env = (false, eval (.Name z pz) X.env) :: starEach es X.env := by rfl) (hpl : (backTo pos (starEach es X.env)).any (·.1) = false := by rfl) :
    PEV X (T ++ [i]) [] true (.Call (.Name y p) (.Name z pz :: es) [] pos) (fCallM F i fr) := by
  refine PE.imp (pe_call G hr hg hm hk hb .nil pass0 (pa_cons (pe_var hN hv hd hcd) ha he) hdb he hpl) fun σ H Q h => ?_
  obtain ⟨Z, ρ, Fs, d, ρ', rel, hf, q⟩ := h
  unfold fCallM at hf
  obtain ⟨o0, h00, hf⟩ := Option.bind_eq_some_iff.mp hf
  obtain ⟨⟨ds, ρ1⟩, h1, hf⟩ := Option.bind_eq_some_iff.mp hf
  obtain ⟨o, h0, hf⟩ := Option.bind_eq_some_iff.mp hf
  split at hf
  · rename_i hn
    obtain ⟨⟨d', es'⟩, h2, hf⟩ := Option.bind_eq_some_iff.mp hf
    split at hf
    · rename_i o' he'
      cases hf
      have he' : es' = [o'] := he'
      subst he'
      obtain ⟨v0, hv0, _⟩ := rel.at_ i o0 (Env.at_some h00)
      refine ⟨v0, hv0, Z, ρ, Fs, ds, ρ1, rel, h1, fun vs H1 Z1 Fs1 F1 rel1 f1 w1 c1 => ?_⟩
      show spV X.K ps.length 1 F ((v0 :: vs) ++ []) H1 Q E0
      rw [List.append_nil]
      have hio := Env.at_some h0
      obtain ⟨v1, hv1, r0⟩ := rel1.at_ i o hio
      rw [hv0] at hv1
      cases hv1
      have e := w1.r.no hn
      subst e
      obtain ⟨hl1, hl2⟩ := hnp _ _ h2
      have ra := rel_args w1.r rel1.zt
      have relA : Rel X.K Z1 ((o :: ds).map some) ((v0 :: vs).map some) H1 (fun j => if j = 0 then Fs1 i else []) := by
        refine ⟨fun j d e => ?_, fun j => ?_, fun j k a h1 h2 => ?_, fun j a h => ?_, rel1.zt, fun j a h => ?_, by rw [List.length_map, List.length_map]; show ds.length + 1 = vs.length + 1; rw [w1.r.length]⟩
        · cases j with
          | zero => cases e; exact ⟨v0, rfl, r0⟩
          | succ j => exact ra.at_ j d e
        · by_cases q : j = 0
          · simp only [if_pos q]; exact rel1.nd i
          · simp only [if_neg q]; exact List.nodup_nil
        · by_cases q : j = 0
          · by_cases p : k = 0
            · rw [q, p]
            · simp [p] at h2
          · simp [q] at h1
        · by_cases q : j = 0
          · simp only [if_pos q] at h; exact rel1.nz i a h
          · simp [q] at h
        · by_cases q : j = 0
          · simp only [if_pos q] at h; exact rel1.ft i a h
          · simp [q] at h
      refine ⟨Z1, o :: ds, _, d', [o'], relA, fun j hj => if_neg (by omega), hl1, hp1, h2, rfl, fun v H' Z' Gs' F' rel2 f2 w2 c2 => ?_⟩
      have own0 : ∀ {a}, (∃ j ∈ List.range 1, a ∈ (if j = 0 then Fs1 i else [])) → a ∈ Fs1 i := fun {a} ⟨j, hj, ha⟩ => by
        have e : j = 0 := by have := List.mem_range.mp hj; omega
        subst e
        exact ha
      have k1 : Keep (fun a => a ∈ Fs1 i) H1 H' := f2.keep.mono fun a h => own0 h
      have g0 : ∀ a ∈ Gs' 0, a ∈ Fs1 i ∨ H1 a = none := fun a ha => (f2.c1 0 (by simp) a ha).imp own0 id
      have fF : ∀ a ∈ F', a ∈ Fs1 i ∨ H1 a = none := fun a ha => (c2 rfl a ha).imp own0 id
      have zF : ∀ a, Z' a → Z1 a ∨ a ∈ Fs1 i ∨ H1 a = none := fun a h => (f2.c3 a h).imp id fun h => h.imp own0 id
      obtain ⟨v2, hv2, r2⟩ := rel2.at_ 0 o' rfl
      cases hv2
      have hil := Env.lt hio
      have rel3 : Rel X.K Z' (ρ1.set i (some o')) σ H' (fun j => if j = i then Gs' 0 else Fs1 j) := by
        refine ⟨fun j d e => ?_, fun j => ?_, fun j k a h1 h2 => ?_, fun j a h z => ?_, rel2.zt, fun j a h => ?_, by rw [List.length_set]; exact rel1.len⟩
        · by_cases q : j = i
          · subst q
            rw [List.getElem?_set_self hil] at e
            cases e
            simp only [if_pos rfl]
            exact ⟨v0, hv0, r2⟩
          · rw [List.getElem?_set_ne (Ne.symm q)] at e
            simp only [if_neg q]
            obtain ⟨v', h1, h2⟩ := rel1.at_ j d e
            exact ⟨v', h1, h2.keep k1 f2.zz (fun a z h => rel1.nz i a h z) fun a ha h => q (rel1.dj j i a ha h)⟩
        · by_cases q : j = i
          · simp only [if_pos q]; exact rel2.nd 0
          · simp only [if_neg q]; exact rel1.nd j
        · by_cases q : j = i
          · by_cases p : k = i
            · rw [q, p]
            · simp only [if_pos q] at h1
              simp only [if_neg p] at h2
              rcases g0 a h1 with z | z
              · exact absurd (rel1.dj k i a h2 z) p
              · exact absurd z (rel1.ft k a h2)
          · by_cases p : k = i
            · simp only [if_neg q] at h1
              simp only [if_pos p] at h2
              rcases g0 a h2 with z | z
              · exact absurd (rel1.dj j i a h1 z) q
              · exact absurd z (rel1.ft j a h1)
            · simp only [if_neg q] at h1
              simp only [if_neg p] at h2
              exact rel1.dj j k a h1 h2
        · by_cases q : j = i
          · simp only [if_pos q] at h; exact rel2.nz 0 a h z
          · simp only [if_neg q] at h
            rcases zF a z with z | z | z
            · exact rel1.nz j a h z
            · exact q (rel1.dj j i a h z)
            · exact rel1.ft j a h z
        · by_cases q : j = i
          · simp only [if_pos q] at h; exact rel2.ft 0 a h
          · simp only [if_neg q] at h; exact k1.dom a (rel1.ft j a h)
      have f3 : Frm [i] Z1 ρ1 Fs1 H1 Z' (ρ1.set i (some o')) (fun j => if j = i then Gs' 0 else Fs1 j) H' := by
        refine ⟨fun j hj => ?_, k1.mono fun a h => ⟨i, List.mem_cons_self, h⟩, fun j hj a ha => ?_, fun a h => (zF a h).imp id fun h => h.imp (fun h => ⟨i, List.mem_cons_self, h⟩) id, f2.zz, by rw [List.length_set]⟩
        · have q : j ≠ i := fun e => hj (by rw [e]; exact List.mem_cons_self)
          exact ⟨if_neg q, List.getElem?_set_ne (Ne.symm q)⟩
        · have q : j = i := by simpa using hj
          simp only [if_pos q] at ha
          exact (g0 a ha).imp (fun h => ⟨i, List.mem_cons_self, h⟩) id
      refine q v H' Z' _ F' rel3 (f1.trans f3) ⟨w2.r, fun j a h1 h2 => ?_, w2.exc⟩ (Cf.late f1 fun _ a ha => (fF a ha).imp (fun h => ⟨i, List.mem_cons_self, h⟩) id)
      by_cases q : j = i
      · simp only [if_pos q] at h2
        exact absurd (w2.ori 0 a h1 h2) (by simp)
      · simp only [if_neg q] at h2
        rcases fF a h1 with z | z
        · exact absurd (rel1.dj j i a h2 z) q
        · exact absurd z (rel1.ft j a h2)
    · cases hf
  · cases hf
end
end Vl

namespace Vl
open PySem PySem.Spec PyProof.Rows L2

/-! ### list comprehensions -/
def wipeE (ρ : Env) : List Nat → Env
  | [] => ρ
  | v :: vs => (wipeE ρ vs).set v none
/-- the slots vs as they were in ρ0 -/
def backE (ρ0 ρ : Env) : List Nat → Env
  | [] => ρ
  | v :: vs => (backE ρ0 ρ vs).set v ((ρ0[v]?).getD none)
def ownOk (ρ : Env) (vs : List Nat) : Bool := vs.all fun i => match Env.at ρ i with
  | some d => d.noOwn
  | none => true
def compL (vs : List Nat) (g : D → Env → Option Env) (ft : M Bool) (fe : M D) : List D → Env → List D → Option (List D × Env)
  | [], ρ, acc => some (acc, ρ)
  | d :: ds, ρ, acc => (g d (wipeE ρ vs)).bind fun ρ1 => (ft ρ1).bind fun p => if p.1 = true then (fe p.2).bind fun q => if szOk acc.length = true then compL vs g ft fe ds q.2 (acc ++ [q.1]) else none
    else compL vs g ft fe ds p.2 acc
def fComp (vs : List Nat) (fi : M (List D)) (g : D → Env → Option Env) (ft : M Bool) (fe : M D) : M D := fun ρ => (fi ρ).bind fun p => if ownOk p.2 vs = true then (compL vs g ft fe p.1 p.2 []).bind fun q => some (.lst true q.1, backE p.2 q.2 vs) else none
def fYes : M Bool := fun ρ => some (true, ρ)

theorem wipeE_length (ρ : Env) : ∀ vs : List Nat, (wipeE ρ vs).length = ρ.length
  | [] => rfl
  | v :: vs => by unfold wipeE; rw [List.length_set, wipeE_length ρ vs]
theorem wipeE_out {ρ : Env} {i : Nat} : ∀ {vs : List Nat}, i ∉ vs → (wipeE ρ vs)[i]? = ρ[i]?
  | [], _ => rfl
  | v :: vs, h => by
    unfold wipeE
    rw [List.getElem?_set_ne fun e => h (by rw [← e]; exact List.mem_cons_self)]
    exact wipeE_out fun z => h (List.mem_cons_of_mem _ z)
theorem wipeE_in {ρ : Env} {i : Nat} : ∀ {vs : List Nat}, i ∈ vs → ∀ d, (wipeE ρ vs)[i]? ≠ some (some d)
  | v :: vs, h, d => by
    unfold wipeE
    by_cases q : v = i
    · subst q
      by_cases hl : v < (wipeE ρ vs).length
      · rw [List.getElem?_set_self hl]; intro z; cases z
      · rw [List.getElem?_eq_none (by simpa using hl)]; intro z; cases z
    · rw [List.getElem?_set_ne q]
      exact wipeE_in ((List.mem_cons.mp h).elim (fun e => absurd e.symm q) id) d
theorem backE_length (ρ0 ρ : Env) : ∀ vs : List Nat, (backE ρ0 ρ vs).length = ρ.length
  | [] => rfl
  | v :: vs => by unfold backE; rw [List.length_set, backE_length ρ0 ρ vs]
theorem backE_out {ρ0 ρ : Env} {i : Nat} : ∀ {vs : List Nat}, i ∉ vs → (backE ρ0 ρ vs)[i]? = ρ[i]?
  | [], _ => rfl
  | v :: vs, h => by
    unfold backE
    rw [List.getElem?_set_ne fun e => h (by rw [← e]; exact List.mem_cons_self)]
    exact backE_out fun z => h (List.mem_cons_of_mem _ z)
theorem backE_in {ρ0 ρ : Env} (hl : ρ.length = ρ0.length) {i : Nat} : ∀ {vs : List Nat}, i ∈ vs → (backE ρ0 ρ vs)[i]? = ρ0[i]?
  | v :: vs, h => by
    unfold backE
    by_cases q : v = i
    · subst q
      by_cases hv : v < ρ0.length
      · rw [List.getElem?_set_self (by rw [backE_length]; omega), List.getElem?_eq_getElem hv]
        rfl
      · rw [List.getElem?_eq_none (by rw [List.length_set, backE_length]; omega), List.getElem?_eq_none (by omega)]
    · rw [List.getElem?_set_ne q]
      exact backE_in hl ((List.mem_cons.mp h).elim (fun e => absurd e.symm q) id)
theorem wipe_out' {σ : L2.St} {i : Nat} {vs : List Nat} (h : i ∉ vs) : (wipe σ vs)[i]? = σ[i]? := by
  induction vs with
  | nil => rfl
  | cons v vs ih =>
    show ((wipe σ vs).set v none)[i]? = _
    rw [List.getElem?_set_ne fun e => h (by rw [← e]; exact List.mem_cons_self)]
    exact ih fun z => h (List.mem_cons_of_mem _ z)
theorem wipe_in {σ : L2.St} {i : Nat} {vs : List Nat} (h : i ∈ vs) : (wipe σ vs)[i]? = if i < σ.length then some none else none := by
  induction vs with
  | nil => cases h
  | cons v vs ih =>
    show ((wipe σ vs).set v none)[i]? = _
    by_cases q : v = i
    · subst q
      by_cases hl : v < σ.length
      · rw [if_pos hl, List.getElem?_set_self (by rw [wipe_length]; exact hl)]
      · rw [if_neg hl, List.getElem?_eq_none (by rw [List.length_set, wipe_length]; omega)]
    · rw [List.getElem?_set_ne q]
      exact ih ((List.mem_cons.mp h).elim (fun e => absurd e.symm q) id)
theorem wipe_eq {σ τ : L2.St} {vs : List Nat} (hl : τ.length = σ.length) (h : ∀ i, i ∉ vs → τ[i]? = σ[i]?) : wipe τ vs = wipe σ vs := by
  refine List.ext_getElem? fun i => ?_
  by_cases q : i ∈ vs
  · rw [wipe_in q, wipe_in q, hl]
  · rw [wipe_out' q, wipe_out' q, h i q]

section
variable {K : PySem.W.Frag} {Z Z' Z1 Z2 : Addr → Prop} {ρ ρ' ρ1 ρ2 : Env} {Fs Fs' Fs1 Fs2 : Ft} {H H' H1 H2 : Hp} {T T1 T2 O O1 O2 W W1 W2 : List Nat} {x : Bool} {d : D} {v : V} {F : List Addr} {σ σ' τ : L2.St}
def dropF (Fs : Ft) (vs : List Nat) : Ft := fun j => if j ∈ vs then [] else Fs j
theorem Rel.wipe (rel : Rel K Z ρ σ H Fs) (vs : List Nat) (hl : τ.length = σ.length) (h : ∀ i, i ∉ vs → τ[i]? = σ[i]?) : Rel K Z (wipeE ρ vs) τ H (dropF Fs vs) := by
  refine ⟨fun j e he => ?_, fun j => ?_, fun j k a h1 h2 => ?_, fun j a h => ?_, rel.zt, fun j a h => ?_, by rw [wipeE_length, hl]; exact rel.len⟩
  · by_cases q : j ∈ vs
    · exact absurd he (wipeE_in q e)
    · rw [wipeE_out q] at he
      rw [h j q]
      simp only [dropF, if_neg q]
      exact rel.at_ j e he
  · by_cases q : j ∈ vs
    · simp only [dropF, if_pos q]; exact List.nodup_nil
    · simp only [dropF, if_neg q]; exact rel.nd j
  · by_cases q : j ∈ vs
    · simp [dropF, q] at h1
    · by_cases p : k ∈ vs
      · simp [dropF, p] at h2
      · simp only [dropF, if_neg q] at h1
        simp only [dropF, if_neg p] at h2
        exact rel.dj j k a h1 h2
  · by_cases q : j ∈ vs
    · simp [dropF, q] at h
    · simp only [dropF, if_neg q] at h; exact rel.nz j a h
  · by_cases q : j ∈ vs
    · simp [dropF, q] at h
    · simp only [dropF, if_neg q] at h; exact rel.ft j a h
theorem Frm.wipe (vs : List Nat) : Frm vs Z ρ Fs H Z (wipeE ρ vs) (dropF Fs vs) H := by
  refine ⟨fun j hj => ⟨by simp [dropF, hj], wipeE_out hj⟩, Keep.refl _ _, fun j hj a ha => ?_, fun a h => .inl h, fun a h => h, wipeE_length _ _⟩
  simp [dropF, hj] at ha
theorem Val.wipe {vs : List Nat} (w : Val K Z H Fs O x d v F) : Val K Z H (dropF Fs vs) O x d v F := by
  refine ⟨w.r, fun j a h1 h2 => ?_, w.exc⟩
  by_cases q : j ∈ vs
  · simp [dropF, q] at h2
  · simp only [dropF, if_neg q] at h2; exact w.ori j a h1 h2
/-- a list that no slot holds grows -/
theorem Frm.wr {D : Addr} {o u : HO} (f : Frm T Z ρ Fs H Z' ρ' Fs' H') (hn : H D = none) (hD : H' D = some u) (hu : Mut (some u)) : Frm T Z ρ Fs H Z' ρ' Fs' (upd H' D o) :=
  ⟨f.sub, f.keep.trans (Keep.wr hD hu) (fun _ h => h) fun a h => .inr (by rw [h]; exact hn), f.c1, f.c3, f.zz, f.len⟩
theorem Rel.wr {D : Addr} {o u : HO} (rel : Rel K Z ρ σ H Fs) (hD : H D = some u) (hu : Mut (some u)) (hf : ∀ j, D ∉ Fs j) (hz : ¬ Z D) : Rel K Z ρ σ (upd H D o) Fs := by
  have k : Keep (fun a => a = D) H (upd H D o) := Keep.wr hD hu
  exact ⟨fun i d e => let ⟨v, h1, h2⟩ := rel.at_ i d e; ⟨v, h1, h2.keep k (fun _ h => h) (fun a z e => hz (by rw [← e]; exact z)) fun a ha e => hf i (by rw [← e]; exact ha)⟩, rel.nd, rel.dj, rel.nz,
    fun a h => k.dom a (rel.zt a h), fun i a h => k.dom a (rel.ft i a h), rel.len⟩
/-- a block's own slots are put back -/
theorem Rel.back {vs : List Nat} {ρ0 : Env} {Fs0 : Ft} {Z0 : Addr → Prop} {H0 : Hp} (rel0 : Rel K Z0 ρ0 σ H0 Fs0) (ok : ownOk ρ0 vs = true) (rel : Rel K Z ρ (L2.wipe σ vs) H Fs) (f : Frm T Z0 ρ0 Fs0 H0 Z ρ Fs H) : Rel K Z (backE ρ0 ρ vs) σ H (dropF Fs vs) := by
  refine ⟨fun j e he => ?_, fun j => ?_, fun j k a h1 h2 => ?_, fun j a h => ?_, rel.zt, fun j a h => ?_, by rw [backE_length, f.len]; exact rel0.len⟩
  · by_cases q : j ∈ vs
    · rw [backE_in f.len q] at he
      obtain ⟨v, h1, h2⟩ := rel0.at_ j e he
      have hn : e.noOwn = true := by
        have z := List.all_eq_true.mp ok j q
        unfold Env.at at z
        rw [he] at z
        exact z
      have e0 := h2.no hn
      rw [e0] at h2
      refine ⟨v, h1, ?_⟩
      simp only [dropF, if_pos q]
      exact h2.keep f.keep f.zz (fun a z ⟨k, hk, ha⟩ => rel0.nz k a ha z) fun a h => (by cases h)
    · rw [backE_out q] at he
      obtain ⟨v, h1, h2⟩ := rel.at_ j e he
      rw [wipe_out' q] at h1
      refine ⟨v, h1, ?_⟩
      simp only [dropF, if_neg q]
      exact h2
  · by_cases q : j ∈ vs
    · simp only [dropF, if_pos q]; exact List.nodup_nil
    · simp only [dropF, if_neg q]; exact rel.nd j
  · by_cases q : j ∈ vs
    · simp [dropF, q] at h1
    · by_cases p : k ∈ vs
      · simp [dropF, p] at h2
      · simp only [dropF, if_neg q] at h1
        simp only [dropF, if_neg p] at h2
        exact rel.dj j k a h1 h2
  · by_cases q : j ∈ vs
    · simp [dropF, q] at h
    · simp only [dropF, if_neg q] at h; exact rel.nz j a h
  · by_cases q : j ∈ vs
    · simp [dropF, q] at h
    · simp only [dropF, if_neg q] at h; exact rel.ft j a h
theorem Frm.back {vs : List Nat} {ρ0 : Env} {Fs0 : Ft} {Z0 : Addr → Prop} {H0 : Hp} (f : Frm T Z0 ρ0 Fs0 H0 Z ρ Fs H) : Frm (T ++ vs) Z0 ρ0 Fs0 H0 Z (backE ρ0 ρ vs) (dropF Fs vs) H := by
  have f2 := f.mono (T1 := T ++ vs) fun j hj => List.mem_append_left _ hj
  refine ⟨fun j hj => ?_, f2.keep, fun j hj a ha => ?_, f2.c3, f2.zz, by rw [backE_length]; exact f2.len⟩
  · have q : j ∉ vs := fun z => hj (List.mem_append_right _ z)
    have h := f2.sub j hj
    exact ⟨by simp only [dropF, if_neg q]; exact h.1, by rw [backE_out q]; exact h.2⟩
  · by_cases q : j ∈ vs
    · simp [dropF, q] at ha
    · simp only [dropF, if_neg q] at ha
      exact f2.c1 j hj a ha
end

section
variable {X : Cx} {T T1 T2 T3 O O1 O2 O3 W W1 W2 Wg Tg Tt Te : List Nat} {x x1 x2 x3 : Bool} {e c tg iter elt : Expr} {ifs : List Expr} {f fa fe : M D} {fi fr : M (List D)} {ft : M Bool} {pos : Pos} {g : D → Env → Option Env}
/-- one item more -/
theorem Val.app {K : PySem.W.Frag} {Z : Addr → Prop} {H : Hp} {Fs : Ft} {acc : List D} {DD : Addr} {F G : List Addr} {d : D} {v : V} (w : Val K Z H Fs [] true (.lst true acc) (.ref DD) F) (w2 : Val K Z H Fs [] true d v G) (hdj : ∀ a ∈ F, a ∉ G) :
    ∃ vs F0, H DD = some (.lst vs) ∧ vs.length = acc.length ∧ Val K Z (upd H DD (.lst (vs ++ [v]))) Fs [] true (.lst true (acc ++ [d])) (.ref DD) (DD :: (F0 ++ G)) ∧ DD ∈ F ∧ ∀ a ∈ F0, a ∈ F := by
  have hr := w.r
  obtain ⟨nd, nz⟩ := w.exc rfl
  obtain ⟨nd2, nz2⟩ := w2.exc rfl
  cases hr with
  | own h rs =>
    rename_i vs F0
    have k : Keep (fun a => a = DD) H (upd H DD (.lst (vs ++ [v]))) := Keep.wr h trivial
    have hm : DD ∈ DD :: F0 := List.mem_cons_self
    obtain ⟨n1, n2⟩ := List.nodup_cons.mp nd
    have hz : ∀ a, Z a → ¬ a = DD := fun a z e => nz DD hm (by rw [← e]; exact z)
    have hG : DD ∉ G := hdj DD hm
    refine ⟨vs, F0, h, rs.length.symm, ⟨.own upd_same (Rs.app (rs.keep k (fun _ h => h) hz fun a ha e => n1 (by rw [← e]; exact ha)) (Rs.one (w2.r.keep k (fun _ h => h) hz fun a ha e => hG (by rw [← e]; exact ha)))), fun j a h1 h2 => ?_, fun _ => ⟨?_, fun a ha => ?_⟩⟩, hm, fun a ha => List.mem_cons_of_mem _ ha⟩
    · rcases List.mem_cons.mp h1 with e | h1
      · exact w.ori j a (by rw [e]; exact hm) h2
      · rcases List.mem_append.mp h1 with h1 | h1
        · exact w.ori j a (List.mem_cons_of_mem _ h1) h2
        · exact w2.ori j a h1 h2
    · refine List.nodup_cons.mpr ⟨fun z => (List.mem_append.mp z).elim n1 hG, List.nodup_append.mpr ⟨n2, nd2, fun a h1 b h2 e => ?_⟩⟩
      subst e
      exact hdj a (List.mem_cons_of_mem _ h1) h2
    · rcases List.mem_cons.mp ha with e | h1
      · exact nz a (by rw [e]; exact hm)
      · rcases List.mem_append.mp h1 with h1 | h1
        · exact nz a (List.mem_cons_of_mem _ h1)
        · exact nz2 a h1
abbrev PTsV (X : Cx) (T : List Nat) (ifs : List Expr) (f : M Bool) : Prop := PTs X ifs (tVT X.K T f)
theorem ptsv_nil : PTsV X [] [] fYes := by
  refine ⟨fun pins s σ H Q I h => pts_nil.run pins s σ H Q I ?_⟩
  obtain ⟨Z, ρ, Fs, b, ρ', rel, hf, q⟩ := h
  cases hf
  exact q H Z Fs rel (Frm.refl _)
theorem ptsv_one (h : PTV X T c ft) : PTsV X T [c] ft := pts_one h
theorem backE_wipe {ρ0 ρ : Env} (hl : ρ.length = ρ0.length) (vs : List Nat) : backE ρ0 (wipeE ρ vs) vs = backE ρ0 ρ vs := by
  refine List.ext_getElem? fun i => ?_
  by_cases q : i ∈ vs
  · rw [backE_in (by rw [wipeE_length]; exact hl) q, backE_in hl q]
  · rw [backE_out q, backE_out q, wipeE_out q]
/-- within a comprehension: the new list is DD -/
structure BK (K : PySem.W.Frag) (Tl : List Nat) (Z1 : Addr → Prop) (ρ1 : Env) (Fs1 : Ft) (H1 : Hp) (DD : Addr) (acc : List D) (Z : Addr → Prop) (ρ : Env) (Fs : Ft) (H : Hp) (τ : L2.St) : Prop where
  rel : Rel K Z ρ τ H Fs
  frm : Frm Tl Z1 ρ1 Fs1 H1 Z ρ Fs H
  val : ∃ F, Val K Z H Fs [] true (.lst true acc) (.ref DD) F ∧ Cf Tl Fs1 H1 true F
section
variable {K : PySem.W.Frag} {Z Z' Z1 Z2 : Addr → Prop} {ρ ρ' ρ1 ρ2 : Env} {Fs Fs' Fs1 Fs2 : Ft} {H H' H1 H2 : Hp} {Tl T' : List Nat} {d : D} {v : V} {σ τ τ' : L2.St} {DD : Addr} {acc : List D}
theorem BK.step (b : BK K Tl Z1 ρ1 Fs1 H1 DD acc Z ρ Fs H τ) (rel : Rel K Z' ρ' τ' H' Fs') (f : Frm T' Z ρ Fs H Z' ρ' Fs' H') (hT : ∀ j ∈ T', j ∈ Tl) : BK K Tl Z1 ρ1 Fs1 H1 DD acc Z' ρ' Fs' H' τ' := by
  obtain ⟨F, w, c⟩ := b.val
  exact ⟨rel, (b.frm.trans f).mono fun j hj => (List.mem_append.mp hj).elim id (hT j), F, w.keep b.rel f (by simp [safe]), c⟩
theorem BK.keep0 (b : BK K Tl Z1 ρ1 Fs1 H1 DD acc Z ρ Fs H τ) (k : Keep M0 H H') : BK K Tl Z1 ρ1 Fs1 H1 DD acc Z ρ Fs H' τ := b.step (b.rel.keep0 k) (Frm.pure k) fun _ h => (by cases h)
theorem BK.wipe (b : BK K Tl Z1 ρ1 Fs1 H1 DD acc Z ρ Fs H τ) (vs : List Nat) (hl : τ'.length = τ.length) (h : ∀ i, i ∉ vs → τ'[i]? = τ[i]?) (hv : ∀ j ∈ vs, j ∈ Tl) : BK K Tl Z1 ρ1 Fs1 H1 DD acc Z (wipeE ρ vs) (dropF Fs vs) H τ' := by
  obtain ⟨F, w, c⟩ := b.val
  exact ⟨b.rel.wipe vs hl h, (b.frm.trans (Frm.wipe vs)).mono fun j hj => (List.mem_append.mp hj).elim id (hv j), F, w.wipe, c⟩
theorem BK.app {G : List Addr} (b : BK K Tl Z1 ρ1 Fs1 H1 DD acc Z ρ Fs H τ) (rel : Rel K Z' ρ' τ' H' Fs') (f : Frm T' Z ρ Fs H Z' ρ' Fs' H') (hT : ∀ j ∈ T', j ∈ Tl) (w2 : Val K Z' H' Fs' [] true d v G) (c2 : Cf T' Fs H true G) (hD : H1 DD = none) :
    ∃ vacc, H' DD = some (.lst vacc) ∧ vacc.length = acc.length ∧ BK K Tl Z1 ρ1 Fs1 H1 DD (acc ++ [d]) Z' ρ' Fs' (upd H' DD (.lst (vacc ++ [v]))) τ' := by
  obtain ⟨F, w, c⟩ := b.val
  have b2 := b.step rel f hT
  have w' := w.keep b.rel f (by simp [safe])
  have hdj : ∀ a ∈ F, a ∉ G := fun a ha hG => by
    rcases c2 rfl a hG with ⟨j, hj, q⟩ | q
    · exact absurd (w.ori j a ha q) (by simp)
    · exact w.r.tr a ha q
  obtain ⟨vacc, F0, h1, h2, h3, h4, h5⟩ := w'.app w2 hdj
  refine ⟨vacc, h1, h2, rel.wr h1 trivial (fun j h => absurd (w'.ori j DD h4 h) (by simp)) ((w'.exc rfl).2 DD h4), b2.frm.wr hD h1 trivial, _, h3, fun hx a ha => ?_⟩
  rcases List.mem_cons.mp ha with e | ha
  · exact .inr (by rw [e]; exact hD)
  · rcases List.mem_append.mp ha with ha | ha
    · exact c rfl a (h5 a ha)
    · exact ((Cf.late b.frm c2).mono fun j hj => (List.mem_append.mp hj).elim id (hT j)) rfl a ha
end
theorem tv_comp (vs : List Nat) (hW : Wg.all (fun i => vs.contains i) = true) (ho : O.all (fun i => !(vs ++ (Tg ++ (Tt ++ Te))).contains i) = true) {σ : L2.St} {H : Hp} {Q : VK} (h : tV X.K (T ++ ((vs ++ (Tg ++ (Tt ++ Te))) ++ vs)) [] true (fComp vs fi g ft fe) σ H Q) :
    tLc (tVI X.K T O fi) (tVG X.K Wg Tg g) (tVT X.K Tt ft) (tV X.K Te [] true fe) vs σ H Q := by
  obtain ⟨Z, ρ, Fs, d, ρ', rel, hf, q⟩ := h
  unfold fComp at hf
  obtain ⟨⟨items, ρ1⟩, h1, hf⟩ := Option.bind_eq_some_iff.mp hf
  split at hf
  · rename_i hok
    obtain ⟨⟨res, ρ2⟩, h2, hf⟩ := Option.bind_eq_some_iff.mp hf
    cases hf
    refine ⟨Z, ρ, Fs, items, ρ1, rel, h1, fun J H1 Z1 Fs1 A G Y rel1 f1 wk hA stay DD hDD => ?_⟩
    have inTl : ∀ {j}, j ∈ vs ∨ j ∈ Tg ∨ j ∈ Tt ∨ j ∈ Te → j ∈ vs ++ (Tg ++ (Tt ++ Te)) := fun {j} h => by
      rcases h with h | h | h | h
      · exact List.mem_append_left _ h
      · exact List.mem_append_right _ (List.mem_append_left _ h)
      · exact List.mem_append_right _ (List.mem_append_right _ (List.mem_append_left _ h))
      · exact List.mem_append_right _ (List.mem_append_right _ (List.mem_append_right _ h))
    generalize hTl : vs ++ (Tg ++ (Tt ++ Te)) = Tl at q ho inTl
    have far : ∀ a ∈ A, ¬ ∃ j ∈ Tl, a ∈ Fs1 j := fun a ha ⟨j, hj, hf⟩ => by
      have z := List.all_eq_true.mp ho j (hA j a ha hf)
      simp only [Bool.not_eq_true', List.contains_eq_mem, decide_eq_false_iff_not] at z
      exact z hj
    have znot : ∀ a, Z1 a → ¬ ∃ j ∈ Tl, a ∈ Fs1 j := fun a z ⟨j, _, ha⟩ => rel1.nz j a ha z
    have k0 : Keep M0 H1 (upd H1 DD (.lst [])) := Keep.new hDD
    have inW : ∀ j ∈ Wg, j ∈ vs := fun j hj => by simpa using List.all_eq_true.mp hW j hj
    have b0 : BK X.K Tl Z1 ρ1 Fs1 H1 DD [] Z1 (wipeE ρ1 vs) (dropF Fs1 vs) (upd H1 DD (.lst [])) (wipe σ vs) := by
      have b : BK X.K Tl Z1 ρ1 Fs1 H1 DD [] Z1 ρ1 Fs1 (upd H1 DD (.lst [])) σ := by
        refine ⟨rel1.keep0 k0, Frm.pureT _ k0, [DD], ⟨.own upd_same .nil, fun j a h1 h2 => ?_, fun _ => ⟨by simp, fun a ha z => ?_⟩⟩, fun _ a ha => .inr ?_⟩
        · have e : a = DD := by simpa using h1
          exact absurd hDD (by rw [← e]; exact rel1.ft j a h2)
        · have e : a = DD := by simpa using ha
          exact rel1.zt a z (by rw [e]; exact hDD)
        · have e : a = DD := by simpa using ha
          rw [e]; exact hDD
      exact b.wipe vs (wipe_length _ _) (fun i hi => wipe_out' hi) fun j hj => inTl (.inl hj)
    refine lc_it wk (vs := vs) (fun i Hi => ∃ Zi ρi Fsi acc, BK X.K Tl Z1 ρ1 Fs1 H1 DD acc Zi (wipeE ρi vs) Fsi Hi (wipe σ vs) ∧ ρi.length = ρ1.length ∧ compL vs g ft fe (items.drop i) ρi acc = some (res, ρ2)) ?_ ?_ ?_ ?_
    · exact ⟨Z1, ρ1, _, [], b0, rfl, by rw [List.drop_zero]; exact h2⟩
    · intro i Hi hi ⟨Zi, ρi, Fsi, acc, b, hl, hc⟩
      exact (stay _ Zi Hi b.frm.keep far znot b.frm.zz).1
    · intro i v Hi H' hi ⟨Zi, ρi, Fsi, acc, b, hl, hc⟩ y
      have hd : items[i]? = some items[i] := List.getElem?_eq_getElem hi
      obtain ⟨k, rv⟩ := (stay _ Zi Hi b.frm.keep far znot b.frm.zz).2 i v H' _ y hd
      rw [List.drop_eq_getElem_cons hi] at hc
      obtain ⟨ρg, hg1, hc⟩ := Option.bind_eq_some_iff.mp hc
      obtain ⟨⟨bt, ρt⟩, ht1, hc⟩ := Option.bind_eq_some_iff.mp hc
      have b1 := b.keep0 k
      refine ⟨Zi, wipeE ρi vs, Fsi, items[i], ρg, b1.rel, rv, hg1, fun σ2 H2 Z2 Fs2 fn2 => ⟨?_, ?_⟩⟩
      · refine wipe_eq (by rw [fn2.sl, wipe_length]) fun j hj => ?_
        rw [fn2.sg j fun z => hj (inW j z), wipe_out' hj]
      · have b2 := b1.step fn2.rel fn2.frm fun j hj => inTl (.inr (.inl hj))
        have outs2 : ∀ j, j ∉ vs → (wipe σ vs)[j]? = σ2[j]? := fun j hj => (fn2.sg j fun z => hj (inW j z)).symm
        refine ⟨Z2, ρg, Fs2, bt, ρt, fn2.rel, ht1, fun H3 Z3 Fs3 rel3 f3 => ?_⟩
        have b3 := b2.step rel3 f3 fun j hj => inTl (.inr (.inr (.inl hj)))
        cases bt with
        | false =>
          refine iteF ?_
          rw [if_neg Bool.false_ne_true] at hc
          refine ⟨Z3, ρt, _, acc, b3.wipe vs (by rw [fn2.sl]) outs2 fun j hj => inTl (.inl hj), b3.frm.len, hc⟩
        | true =>
          refine iteT ?_
          rw [if_pos rfl] at hc
          obtain ⟨⟨de, ρe⟩, he1, hc⟩ := Option.bind_eq_some_iff.mp hc
          split at hc
          · rename_i hz
            refine ⟨Z3, ρt, Fs3, de, ρe, rel3, he1, fun v4 H4 Z4 Fs4 F4 rel4 f4 w4 c4 => ?_⟩
            obtain ⟨vacc, hv1, hv2, b4⟩ := b3.app rel4 f4 (fun j hj => inTl (.inr (.inr (.inr hj)))) w4 c4 hDD
            exact ⟨vacc, hv1, by rw [hv2]; exact sz_lt hz, Z4, ρe, _, _, b4.wipe vs (by rw [fn2.sl]) outs2 fun j hj => inTl (.inl hj), b4.frm.len, hc⟩
          · cases hc
    · intro Hi ⟨Zi, ρi, Fsi, acc, b, hl, hc⟩
      rw [List.drop_length] at hc
      cases hc
      obtain ⟨F, w, c⟩ := b.val
      have rb := Rel.back rel1 hok b.rel b.frm
      have fb := Frm.back (vs := vs) b.frm
      rw [backE_wipe hl] at rb fb
      exact q (.ref DD) Hi Zi _ F rb (f1.trans fb) w.wipe (Cf.late f1 (c.mono fun j hj => List.mem_append_left _ hj))
  · cases hf
theorem pev_lc {scope : Scope} {own : List (Str × Nat)} (hc : X.calm = true) (hN : X.N.Nodup) (hi : PIV X T O tg iter fi) (ok : BlkOk X.N X.env.scope scope own)
    (hg : ∀ (s : Shared) (H : Hp) (C : Addr) (cl : List (Str × Addr)) (fp : List Addr), PGV (X.blk s H scope (compEnvC scope cl C X.env) fp) Wg Tg tg g) (ht : ∀ (s : Shared) (H : Hp) (C : Addr) (cl : List (Str × Addr)) (fp : List Addr), PTsV (X.blk s H scope (compEnvC scope cl C X.env) fp) Tt ifs ft)
    (he : ∀ (s : Shared) (H : Hp) (C : Addr) (cl : List (Str × Addr)) (fp : List Addr), PEV (X.blk s H scope (compEnvC scope cl C X.env) fp) Te [] true elt fe) (hW : Wg.all (fun i => (own.map (·.2)).contains i) = true := by rfl) (ho : O.all (fun i => !((own.map (·.2)) ++ (Tg ++ (Tt ++ Te))).contains i) = true := by rfl)
    (hs : ∀ x, foldedSetIterable iter X.env x = pure x := by intro _; rfl) :
    PEV X (T ++ (((own.map (·.2)) ++ (Tg ++ (Tt ++ Te))) ++ (own.map (·.2)))) [] true (.ListComp elt [⟨tg, iter, ifs, 0⟩] scope pos) (fComp (own.map (·.2)) fi g ft fe) :=
  PE.imp (pe_lc hc hN hi ok hg ht he hs) fun σ H Q h => tv_comp _ hW ho h
theorem psv_setLc (i : Nat) {y : Str} {py spos : Pos} {scope : Scope} {own : List (Str × Nat)} (hc : X.calm = true) (hN : X.N.Nodup) (hsw : swapsWith (.ListComp elt [⟨tg, iter, ifs, 0⟩] scope pos) (some (.Name y py)) spos.line X.env = pure true) (hi : PIV X T O tg iter fi) (ok : BlkOk X.N X.env.scope scope own)
    (hg : ∀ (s : Shared) (H : Hp) (C : Addr) (cl : List (Str × Addr)) (fp : List Addr), PGV (X.blk s H scope (compEnvC scope cl C X.env) fp) Wg Tg tg g) (ht : ∀ (s : Shared) (H : Hp) (C : Addr) (cl : List (Str × Addr)) (fp : List Addr), PTsV (X.blk s H scope (compEnvC scope cl C X.env) fp) Tt ifs ft)
    (he : ∀ (s : Shared) (H : Hp) (C : Addr) (cl : List (Str × Addr)) (fp : List Addr), PEV (X.blk s H scope (compEnvC scope cl C X.env) fp) Te [] true elt fe) (hy : X.N[i]? = some y := by rfl) (hyl : X.env.scope.names.lookup y = some .local := by rfl)
    (hW : Wg.all (fun i => (own.map (·.2)).contains i) = true := by rfl) (ho : O.all (fun i => !((own.map (·.2)) ++ (Tg ++ (Tt ++ Te))).contains i) = true := by rfl)
    (hs : ∀ x, foldedSetIterable iter X.env x = pure x := by intro _; rfl) :
    PSV X [i] (i :: (T ++ (((own.map (·.2)) ++ (Tg ++ (Tt ++ Te))) ++ (own.map (·.2))))) (.Assign [.Name y py] (.ListComp elt [⟨tg, iter, ifs, 0⟩] scope pos) spos) (sSet i (fComp (own.map (·.2)) fi g ft fe)) := by
  refine PS.imp (ps_setLc (g := tVG X.K Wg Tg g) (tt := tVT X.K Tt ft) (te := tV X.K Te [] true fe) hc hN hy hyl hsw hi ok hg ht he hs) fun D σ H h => ?_
  obtain ⟨Z, ρ, Fs, r, rel, hf, h1, h2, h3, h4⟩ := h
  unfold sSet at hf
  obtain ⟨⟨d, ρ1⟩, hp, hf⟩ := Option.bind_eq_some_iff.mp hf
  cases hf
  exact tv_comp _ hW ho ⟨Z, ρ, Fs, d, ρ1, rel, hp, fun v H' Z' Fs' F rel' f' w c => h1 _ rfl _ _ _ _ (Fin.put rel' f' w c)⟩
end
end Vl

namespace Vl
open PySem PySem.Spec PyProof.Rows L2

/-! ### data as the kit's deep data: == -/
mutual
def D.toP : D → PyData
  | .non => .none
  | .bl b => .bool b
  | .int i => .int i
  | .str s => .str s
  | .tup l => .tuple (D.toPL l)
  | .lst _ l => .list (D.toPL l)
  | .dct _ _ _ => .dict []
  | .scr l => .list (D.toPL l)
  | .xt l => .tuple (D.toPL l)
def D.toPL : List D → List PyData
  | [] => []
  | d :: r => d.toP :: D.toPL r
end
mutual
/-- no dict within, texts of true signs -/
def D.eok : D → Bool
  | .non => true
  | .bl _ => true
  | .int _ => true
  | .str s => PyData.strOk s
  | .tup l => D.eokL l
  | .lst _ l => D.eokL l
  | .dct _ _ _ => false
  | .scr l => D.eokL l
  | .xt l => D.eokL l
def D.eokL : List D → Bool
  | [] => true
  | d :: r => d.eok && D.eokL r
end
mutual
def D.dep : D → Nat
  | .non => 0
  | .bl _ => 0
  | .int _ => 0
  | .str _ => 0
  | .tup l => D.depL l + 1
  | .lst _ l => D.depL l + 1
  | .dct _ _ _ => 1
  | .scr l => D.depL l + 1
  | .xt l => D.depL l + 1
def D.depL : List D → Nat
  | [] => 0
  | d :: r => max d.dep (D.depL r)
end
mutual
theorem D.canLay : ∀ {d : D}, d.eok = true → d.toP.canLay0 = true
  | .non, _ => by simp [D.toP, PyData.canLay0]
  | .bl _, _ => by simp [D.toP, PyData.canLay0]
  | .int _, _ => by simp [D.toP, PyData.canLay0]
  | .str s, h => by simpa [D.toP, PyData.canLay0, D.eok] using h
  | .tup l, h => by
    have h : D.eokL l = true := by simpa [D.eok] using h
    simpa [D.toP, PyData.canLay0] using D.canLayL h
  | .lst _ l, h => by
    have h : D.eokL l = true := by simpa [D.eok] using h
    simpa [D.toP, PyData.canLay0] using D.canLayL h
  | .dct _ _ _, h => by simp [D.eok] at h
  | .scr l, h => by
    have h : D.eokL l = true := by simpa [D.eok] using h
    simpa [D.toP, PyData.canLay0] using D.canLayL h
  | .xt l, h => by
    have h : D.eokL l = true := by simpa [D.eok] using h
    simpa [D.toP, PyData.canLay0] using D.canLayL h
theorem D.canLayL : ∀ {l : List D}, D.eokL l = true → PyData.canLayAll0 (D.toPL l) = true
  | [], _ => by simp [D.toPL, PyData.canLayAll0]
  | d :: r, h => by
    have h : (d.eok && D.eokL r) = true := h
    rw [Bool.and_eq_true] at h
    simp only [D.toPL, PyData.canLayAll0, D.canLay h.1, D.canLayL h.2, Bool.and_self]
end
mutual
theorem D.depthP : ∀ d : D, d.toP.depth = d.dep
  | .non => by simp [D.toP, D.dep, PyData.depth]
  | .bl _ => by simp [D.toP, D.dep, PyData.depth]
  | .int _ => by simp [D.toP, D.dep, PyData.depth]
  | .str _ => by simp [D.toP, D.dep, PyData.depth]
  | .tup l => by simp only [D.toP, D.dep, PyData.depth, D.depthPL l]
  | .lst _ l => by simp only [D.toP, D.dep, PyData.depth, D.depthPL l]
  | .dct _ _ _ => by simp [D.toP, D.dep, PyData.depth, PyData.depthKv]
  | .scr l => by simp only [D.toP, D.dep, PyData.depth, D.depthPL l]
  | .xt l => by simp only [D.toP, D.dep, PyData.depth, D.depthPL l]
theorem D.depthPL : ∀ l : List D, PyData.depthAll (D.toPL l) = D.depL l
  | [] => by simp [D.toPL, D.depL, PyData.depthAll]
  | d :: r => by simp only [D.toPL, D.depL, PyData.depthAll, D.depthP d, D.depthPL r]
end
def eqOk (d : D) : Bool := d.eok && decide (d.dep ≤ 60)
theorem eqOk.shaped {d : D} (h : eqOk d = true) : SeqAt.shaped d.toP = true := by
  unfold eqOk at h
  rw [Bool.and_eq_true] at h
  unfold SeqAt.shaped
  rw [D.canLay h.1, D.depthP]
  have := of_decide_eq_true h.2
  simp
  omega
def pyEq (d e : D) : Bool := PyData.eqv d.toP e.toP
section
variable {K : PySem.W.Frag} {Z : Addr → Prop} {H : Hp}
mutual
theorem R.dp : ∀ {d : D} {v : V} {F : List Addr}, R K Z H d v F → d.eok = true → Dp K H v d.toP
  | _, _, _, .non, _ => .non
  | _, _, _, .bl b, _ => .bl b
  | _, _, _, .int i, _ => .int i
  | _, _, _, .str s, _ => .str s
  | _, _, _, .tup h r, e => .tup (SqT.of h) (Rs.dp r (by simpa [D.eok] using e))
  | _, _, _, .own h r, e => .lst (SqL.of h) (Rs.dp r (by simpa [D.eok] using e))
  | _, _, _, .fzn h z r, e => .lst (SqL.of h) (Rs.dp r (by simpa [D.eok] using e))
  | _, _, _, .knw h r, e => .lst h.l (Rs.dp r (by simpa [D.eok] using e))
  | _, _, _, .dow h r, e => by simp [D.eok] at e
  | _, _, _, .dfz h z r, e => by simp [D.eok] at e
  | _, _, _, .dlk h r, e => by simp [D.eok] at e
  | _, _, _, .xt h _ _ r, e => .tup (.inl (.inr ⟨_, h⟩)) (Rs.dp r (by simpa [D.eok] using e))
theorem Rs.dp : ∀ {ds : List D} {vs : List V} {F : List Addr}, Rs K Z H ds vs F → D.eokL ds = true → DpAll K H vs (D.toPL ds)
  | _, _, _, .nil, _ => .nil
  | _, _, _, .cons r rs, h => by
    have h : (D.eok _ && D.eokL _) = true := h
    rw [Bool.and_eq_true] at h
    exact .cons (R.dp r h.1) (Rs.dp rs h.2)
end
end
def gEq (d e : D) : Option D := if (eqOk d && eqOk e) = true then some (.bl (pyEq d e)) else none
def gNe (d e : D) : Option D := if (eqOk d && eqOk e) = true then some (.bl (!pyEq d e)) else none
theorem eqOk.eok {d : D} (h : eqOk d = true) : d.eok = true := by
  unfold eqOk at h
  rw [Bool.and_eq_true] at h
  exact h.1
/-- an answer that makes nothing -/
theorem OpS.here {K : PySem.W.Frag} {r : R2} {g : D → D → Option D} (h : ∀ (Z : Addr → Prop) (H : Hp) (d1 d2 : D) (v1 v2 : V) (F1 F2 : List Addr) (d : D) (Q : VK), R K Z H d1 v1 F1 → R K Z H d2 v2 F2 → g d1 d2 = some d → (∀ v, R K Z H d v [] → Q v H) → r v1 v2 H Q) : OpS K r g :=
  fun Z H d1 d2 v1 v2 F1 F2 d Q r1 r2 hg q => h Z H d1 d2 v1 v2 F1 F2 d Q r1 r2 hg fun v rv => q v H [] (Keep.refl _ _) rv List.nodup_nil fun _ h => (by cases h)
theorem os_eq {K : PySem.W.Frag} : OpS K (rEqD K) gEq := OpS.here fun Z H d1 d2 v1 v2 F1 F2 d Q r1 r2 hg q => by
  unfold gEq at hg
  split at hg
  · rename_i h
    cases hg
    rw [Bool.and_eq_true] at h
    exact ⟨d1.toP, d2.toP, r1.dp (eqOk.eok h.1), r2.dp (eqOk.eok h.2), eqOk.shaped h.1, eqOk.shaped h.2, q _ (.bl _)⟩
  · cases hg
theorem os_ne {K : PySem.W.Frag} : OpS K (rNeD K) gNe := OpS.here fun Z H d1 d2 v1 v2 F1 F2 d Q r1 r2 hg q => by
  unfold gNe at hg
  split at hg
  · rename_i h
    cases hg
    rw [Bool.and_eq_true] at h
    exact ⟨d1.toP, d2.toP, r1.dp (eqOk.eok h.1), r2.dp (eqOk.eok h.2), eqOk.shaped h.1, eqOk.shaped h.2, q _ (.bl _)⟩
  · cases hg

/-! ### ints -/
def gI (f : Int → Int → D) (d e : D) : Option D := match d, e with
  | .int i, .int j => some (f i j)
  | _, _ => none
def gIc (c : Int → Int → Bool) (f : Int → Int → D) (d e : D) : Option D := match d, e with
  | .int i, .int j => if c i j = true then some (f i j) else none
  | _, _ => none
theorem R.ints {K : PySem.W.Frag} {Z : Addr → Prop} {H : Hp} {d : D} {v : V} {F : List Addr} {i : Int} (r : R K Z H d v F) (e : d = .int i) : v = .int i := by
  subst e
  exact r.int_inv
theorem os_I {K : PySem.W.Frag} {f : Int → Int → Int} : OpS K (rI0 fun i j => .int (f i j)) (gI fun i j => .int (f i j)) := OpS.here fun Z H d1 d2 v1 v2 F1 F2 d Q r1 r2 hg q => by
  unfold gI at hg
  split at hg
  · cases hg
    exact ⟨_, _, r1.int_inv, r2.int_inv, q _ (.int _)⟩
  · cases hg
theorem os_B {K : PySem.W.Frag} {f : Int → Int → Bool} : OpS K (rI0 fun i j => .bl (f i j)) (gI fun i j => .bl (f i j)) := OpS.here fun Z H d1 d2 v1 v2 F1 F2 d Q r1 r2 hg q => by
  unfold gI at hg
  split at hg
  · cases hg
    exact ⟨_, _, r1.int_inv, r2.int_inv, q _ (.bl _)⟩
  · cases hg
theorem os_Ic {K : PySem.W.Frag} {C : Int → Int → Prop} {c : Int → Int → Bool} {f : Int → Int → Int} (h : ∀ i j, c i j = true → C i j) : OpS K (rI C fun i j => .int (f i j)) (gIc c fun i j => .int (f i j)) := OpS.here fun Z H d1 d2 v1 v2 F1 F2 d Q r1 r2 hg q => by
  unfold gIc at hg
  split at hg
  · split at hg
    · rename_i hc
      cases hg
      exact ⟨_, _, r1.int_inv, r2.int_inv, h _ _ hc, q _ (.int _)⟩
    · cases hg
  · cases hg
def gLt : D → D → Option D := gI fun i j => .bl (decide (i < j))
def gLe : D → D → Option D := gI fun i j => .bl (decide (i ≤ j))
def gGt : D → D → Option D := gI fun i j => .bl (decide (j < i))
def gGe : D → D → Option D := gI fun i j => .bl (decide (j ≤ i))
def gSub : D → D → Option D := gI fun i j => .int (i - j)
def bitsOk (i : Int) : Bool := decide (i.natAbs < 2 ^ 400000)
def cMul (i j : Int) : Bool := decide (i.natAbs < 2 ^ 63) || decide (j.natAbs < 2 ^ 63) || (bitsOk i && bitsOk j)
def cMod (_ j : Int) : Bool := decide (j ≠ 0)
def cDiv (_ j : Int) : Bool := decide (j ≠ 0) && decide (j.natAbs < 2 ^ 8000)
/-- // by a divisor below 2 ^ 8000, either way -/
def CDivL (_ j : Int) : Prop := j ≠ 0 ∧ j.natAbs < 2 ^ 8000
theorem op_fdivL {X : Cx} : OpR X (binaryOp .FloorDiv) (rI CDivL fun i j => .int (i.fdiv j)) := opI fun _ _ _ _ _ _ _ hc q =>
  floordiv_int hc.1 q (.inl (PyProof.noPylong_of_log2 (Nat.lt_of_lt_of_le (PySem.Flt.log2_lt_of (by decide) hc.2) (by decide))))
def cPow (i j : Int) : Bool := decide (0 ≤ j) && decide (j ≤ 1000000) && decide (i.natAbs < 2 ^ 64)
def CMulV (i j : Int) : Prop := CMul i j ∨ CMulW i j
theorem cMul_ok {i j : Int} (h : cMul i j = true) : CMulV i j := by
  unfold cMul at h
  rw [Bool.or_eq_true, Bool.or_eq_true] at h
  have z : ∀ {k : Int}, decide (k.natAbs < 2 ^ 63) = true → -(2 ^ 64) < k ∧ k < 2 ^ 64 := fun {k} h => by
    have := of_decide_eq_true h
    omega
  rcases h with (h | h) | h
  · exact .inl (.inl (z h))
  · exact .inl (.inr (z h))
  · rw [Bool.and_eq_true] at h
    exact .inr (wide_mul (of_decide_eq_true h.1) (of_decide_eq_true h.2) (by decide) (by decide) (by decide))
theorem op_mulV {X : Cx} : OpR X (binaryOp .Mult) (rI CMulV fun i j => .int (i * j)) := opI fun _ _ _ _ _ _ _ hc q => mul_int q (hc.elim CMul.ok CMulW.ok)
theorem iop_mulV {X : Cx} : OpR X (inplaceOp .Mult) (rI CMulV fun i j => .int (i * j)) := opI fun _ _ _ _ _ _ _ hc q => imul_int q (hc.elim CMul.ok CMulW.ok)
def gMulI : D → D → Option D := gIc cMul fun i j => .int (i * j)
def gMod : D → D → Option D := gIc cMod fun i j => .int (i.fmod j)
def gDiv : D → D → Option D := gIc cDiv fun i j => .int (i.fdiv j)
def gPow : D → D → Option D := gIc cPow fun i j => .int (i ^ j.toNat)
theorem os_mulI {K : PySem.W.Frag} : OpS K (rI CMulV fun i j => .int (i * j)) gMulI := os_Ic fun _ _ h => cMul_ok h
theorem os_mod {K : PySem.W.Frag} : OpS K (rI (fun _ j => j ≠ 0) fun i j => .int (i.fmod j)) gMod := os_Ic fun _ _ h => of_decide_eq_true h
theorem os_div {K : PySem.W.Frag} : OpS K (rI CDivL fun i j => .int (i.fdiv j)) gDiv := os_Ic fun _ _ h => by
  unfold cDiv at h
  rw [Bool.and_eq_true] at h
  exact ⟨of_decide_eq_true h.1, of_decide_eq_true h.2⟩
theorem os_pow {K : PySem.W.Frag} : OpS K (rI CPow fun i j => .int (i ^ j.toNat)) gPow := os_Ic fun _ _ h => by
  unfold cPow at h
  rw [Bool.and_eq_true, Bool.and_eq_true] at h
  have := of_decide_eq_true h.2
  exact ⟨of_decide_eq_true h.1.1, of_decide_eq_true h.1.2, this⟩
def gNeg : D → Option D
  | .int i => some (.int (-i))
  | _ => none
theorem us_neg {K : PySem.W.Frag} : UnS K (rU fun i => .int (-i)) gNeg := fun Z H d1 v1 F1 d Q r1 hg q => by
  unfold gNeg at hg
  split at hg
  · cases hg
    exact ⟨_, r1.int_inv, q _ H [] (Keep.refl _ _) (.int _) List.nodup_nil fun _ h => (by cases h)⟩
  · cases hg

/-! ### + -/
def rAddStr : R2 := fun x y H Q => ∃ i j, x = .str i ∧ y = .str j ∧ i.length + j.length ≤ sizeLine ∧ Q (.str (i ++ j)) H
abbrev rAddV (K : PySem.W.Frag) : R2 := fun x y H Q => (rI0 fun i j => .int (i + j)) x y H Q ∨ ((rCatA K) x y H Q ∨ (rCat x y H Q ∨ rAddStr x y H Q))
theorem op_addV {X : Cx} : OpR X (binaryOp .Add) (rAddV X.K) := op_add.or (op_catA.or (op_cat.or op_add_str))
def gAdd (d e : D) : Option D := match d, e with
  | .int i, .int j => some (.int (i + j))
  | .tup a, .tup b => if (szOk (a.length + b.length) && D.noOwnL a && D.noOwnL b) = true then some (.tup (a ++ b)) else none
  | .lst _ a, .lst _ b => if (szOk (a.length + b.length) && D.noOwnL a && D.noOwnL b) = true then some (.lst true (a ++ b)) else none
  | .str a, .str b => if szOk (a.length + b.length) = true then some (.str (a ++ b)) else none
  | _, _ => none
theorem R.lst_tr {K : PySem.W.Frag} {Z : Addr → Prop} {H : Hp} {o : Bool} {ds : List D} {v : V} {F : List Addr} (r : R K Z H (.lst o ds) v F) : ∃ a vs G, v = .ref a ∧ H a = some (.lst vs) ∧ Rs K Z H ds vs G := by
  cases r with
  | own h rs => exact ⟨_, _, _, rfl, h, rs⟩
  | fzn h z rs => exact ⟨_, _, _, rfl, h, rs⟩
theorem R.own_inv {K : PySem.W.Frag} {Z : Addr → Prop} {H : Hp} {ds : List D} {v : V} {F : List Addr} (r : R K Z H (.lst true ds) v F) : ∃ a vs G, v = .ref a ∧ F = a :: G ∧ H a = some (.lst vs) ∧ Rs K Z H ds vs G := by
  cases r with
  | own h rs => exact ⟨_, _, _, rfl, rfl, h, rs⟩
theorem Rs.keep0 {K : PySem.W.Frag} {Z : Addr → Prop} {H H' : Hp} {ds : List D} {vs : List V} {F : List Addr} (r : Rs K Z H ds vs F) (k : Keep M0 H H') : Rs K Z H' ds vs F := r.keep k (fun _ h => h) (fun _ _ h => h) fun _ _ h => h
theorem R.keep0 {K : PySem.W.Frag} {Z : Addr → Prop} {H H' : Hp} {d : D} {v : V} {F : List Addr} (r : R K Z H d v F) (k : Keep M0 H H') : R K Z H' d v F := r.keep k (fun _ h => h) (fun _ _ h => h) fun _ _ h => h
/-- a new list of shared items -/
theorem new_list {K : PySem.W.Frag} {Z : Addr → Prop} {H : Hp} {ds : List D} {vs : List V} {Q : VK} {p : Addr} (hp : H p = none) (rs : Rs K Z H ds vs []) (q : ∀ v H' F, Keep M0 H H' → R K Z H' (.lst true ds) v F → F.Nodup → (∀ a ∈ F, H a = none) → Q v H') : Q (.ref p) (upd H p (.lst vs)) := by
  have k : Keep M0 H (upd H p (.lst vs)) := Keep.new hp
  refine q _ _ [p] k (.own upd_same (rs.keep0 k)) (by simp) fun a ha => ?_
  have e : a = p := by simpa using ha
  rw [e]
  exact hp
theorem new_tup {K : PySem.W.Frag} {Z : Addr → Prop} {H : Hp} {ds : List D} {vs : List V} {Q : VK} {p : Addr} (hp : H p = none) (rs : Rs K Z H ds vs []) (q : ∀ v H' F, Keep M0 H H' → R K Z H' (.tup ds) v F → F.Nodup → (∀ a ∈ F, H a = none) → Q v H') : Q (.ref p) (upd H p (.tup vs)) := by
  have k : Keep M0 H (upd H p (.tup vs)) := Keep.new hp
  exact q _ _ [] k (.tup upd_same (rs.keep0 k)) List.nodup_nil fun a ha => (by cases ha)
theorem same_val {K : PySem.W.Frag} {Z : Addr → Prop} {H : Hp} {d : D} {v : V} {Q : VK} (r : R K Z H d v []) (q : ∀ v H' F, Keep M0 H H' → R K Z H' d v F → F.Nodup → (∀ a ∈ F, H a = none) → Q v H') : Q v H :=
  q v H [] (Keep.refl _ _) r List.nodup_nil fun _ h => (by cases h)
theorem os_add {K : PySem.W.Frag} : OpS K (rAddV K) gAdd := fun Z H d1 d2 v1 v2 F1 F2 d Q r1 r2 hg q => by
  unfold gAdd at hg
  split at hg
  · cases hg
    exact .inl ⟨_, _, r1.int_inv, r2.int_inv, same_val (.int _) q⟩
  · split at hg
    · rename_i h
      cases hg
      rw [Bool.and_eq_true, Bool.and_eq_true] at h
      obtain ⟨a, vs, rfl, ha, ra⟩ := r1.tup_tr
      obtain ⟨b, ws, rfl, hb, rb⟩ := r2.tup_tr
      have ra := ra.nil_of h.1.2
      have rb := rb.nil_of h.2
      refine .inr (.inl ⟨a, b, vs, ws, rfl, rfl, SqT.of ha, SqT.of hb, by rw [← ra.length, ← rb.length]; exact sz_of h.1.1, fun e => ?_, fun _ e => ?_, fun _ _ p hp => new_tup hp (ra.app rb) q⟩)
      · subst e
        have e2 := ra.length
        rw [List.length_nil] at e2
        rw [List.eq_nil_of_length_eq_zero e2, List.nil_append] at q
        exact same_val (.tup hb rb) q
      · subst e
        have e2 := rb.length
        rw [List.length_nil] at e2
        rw [List.eq_nil_of_length_eq_zero e2, List.append_nil] at q
        exact same_val (.tup ha ra) q
    · cases hg
  · split at hg
    · rename_i h
      cases hg
      rw [Bool.and_eq_true, Bool.and_eq_true] at h
      obtain ⟨a, vs, G, rfl, ha, ra⟩ := r1.lst_tr
      obtain ⟨b, ws, G2, rfl, hb, rb⟩ := r2.lst_tr
      have ra := ra.nil_of h.1.2
      have rb := rb.nil_of h.2
      exact .inr (.inr (.inl ⟨a, b, vs, ws, rfl, rfl, ha, hb, by rw [← ra.length, ← rb.length]; exact sz_of h.1.1, fun p hp => new_list hp (ra.app rb) q⟩))
    · cases hg
  · split at hg
    · rename_i h
      cases hg
      exact .inr (.inr (.inr ⟨_, _, r1.str_inv, r2.str_inv, sz_of h, same_val (.str _) q⟩))
    · cases hg
  · cases hg
end Vl

namespace Vl
open PySem PySem.Spec PyProof.Rows L2
theorem tuple_mulS (l : Addr) (items : Array Value) (n : Nat) (dd : Option Addr) (sl : Array (Option Value)) (x : Int) (u : Tok) (c0 : (decide (x < -(2 ^ 63)) || decide (x ≥ 2 ^ 63)) = false) (c1 : (items.isEmpty || x == 1) = true) :
    Meets (Builtin.«tuple.__mul__» ⟨[.ref l, .int x u], []⟩) (fun _ R s => s.heap.get? l = some { cls := .type "tuple", dict := dd, data := .seq items n, slots := sl } ∧ R (.ok (.ret (Value.ref l))) s) :=
  .of_wp fun prog w A R s h => by
    obtain ⟨hp, g, d, tk, os⟩ := s
    obtain ⟨hl, h⟩ := h
    have f1 := AutoSeq1.idx_int
    wp_walk using wpAny_loadPart' hl
    repeat (first
      | (refine wpAny_ite_false (decide_eq_false (by rw [c0]; exact Bool.false_ne_true)) ?_; wp_walk using wpAny_loadPart' hl)
      | (refine wpAny_ite_true (decide_eq_true (by rw [c1])) ?_; wp_walk using wpAny_loadPart' hl))
    exact ⟨_, rfl, h⟩
theorem tuple_mul0 (l : Addr) (items : Array Value) (n : Nat) (dd : Option Addr) (sl : Array (Option Value)) (x : Int) (u : Tok) (c0 : (decide (x < -(2 ^ 63)) || decide (x ≥ 2 ^ 63)) = false) (c1 : (items.isEmpty || x == 1) = false) (c2 : (decide (x ≤ 0) || items.isEmpty) = true) :
    Meets (Builtin.«tuple.__mul__» ⟨[.ref l, .int x u], []⟩) (fun _ R s => s.heap.get? l = some { cls := .type "tuple", dict := dd, data := .seq items n, slots := sl } ∧
      R (.ok (.ret (Value.ref s.heap.objs.size))) { s with heap := s.heap.push { cls := Value.type "tuple", data := Data.seq #[] }, toks := s.toks }) :=
  .of_wp fun prog w A R s h => by
    obtain ⟨hp, g, d, tk, os⟩ := s
    obtain ⟨hl, h⟩ := h
    have f1 := AutoSeq1.idx_int
    wp_walk using wpAny_loadPart' hl
    repeat (first
      | (refine wpAny_ite_false (decide_eq_false (by rw [c0]; exact Bool.false_ne_true)) ?_; wp_walk using wpAny_loadPart' hl)
      | (refine wpAny_ite_false (decide_eq_false (by rw [c1]; exact Bool.false_ne_true)) ?_; wp_walk using wpAny_loadPart' hl)
      | (refine wpAny_ite_true (decide_eq_true (by rw [c2])) ?_; wp_walk using wpAny_loadPart' hl))
    exact ⟨_, rfl, h⟩
/-- tuple * int, whatever the int -/
def rRepA (K : PySem.W.Frag) : R2 := fun x y H Q => ∃ l k xs, x = .ref l ∧ y = .int k ∧ SqT K H l xs ∧ -1000000 ≤ k ∧ k ≤ 1000000 ∧ xs.length * k.toNat ≤ 1000000 ∧
  ((xs = [] ∨ k = 1) → Q (.ref l) H) ∧ (¬ (xs = [] ∨ k = 1) → ∀ p, H p = none → Q (.ref p) (upd H p (.tup (List.replicate k.toNat xs).flatten)))
theorem op_repA {X : Cx} : OpR X (binaryOp .Mult) (rRepA X.K) := by
  intro pins s σ H x y v u Q I rx ry h
  obtain ⟨l, k, xs, rfl, rfl, hT, h1, h2, hz, q1, q2⟩ := h
  cases rx
  obtain ⟨t, rfl⟩ := ry
  obtain ⟨its, r, ⟨⟨cls, dd, data, sl⟩, ho, hc, n, hd⟩, hs⟩ := I.tuple hT
  simp only at hc hd
  subst hc hd
  have hle : its.length = xs.length := r.length.symm
  have hsz0 : its.toArray.size = xs.length := by rw [List.size_toArray, hle]
  have c0 : (decide (k < -(2 ^ 63)) || decide (k ≥ 2 ^ 63)) = false := by
    rw [decide_eq_false (by omega), decide_eq_false (by omega)] <;> rfl
  have emp : its.toArray.isEmpty = true ↔ xs = [] := by
    constructor
    · intro e
      have : its = [] := by simpa using e
      rw [this] at hle
      exact List.eq_nil_of_length_eq_zero hle.symm
    · intro e
      rw [e] at hle
      have : its = [] := List.eq_nil_of_length_eq_zero hle
      simp [this]
  refine wpAny_binaryOp_repeat_ref (T := "tuple") (U := "int") (by decide) ⟨_, ho, rfl⟩ (fun s' => typeIs_int s' k t) noFill_tuple_mul F.fills_int_mul F.slot_int_rmul repeat_tuple F.slot_int_index.lookup
    (call_meets F.slot_int_rmul (typeIs_int s k t) F.entry_int_rmul (F.args_int_rmul_2 _ _) (int_rmul_tuple k t l its.toArray n dd sl) ⟨ho, rfl, ⟨_, ho, rfl⟩, ?_⟩)
  by_cases hw : xs = [] ∨ k = 1
  · have c1 : (its.toArray.isEmpty || k == 1) = true := by
      rcases hw with e | e
      · rw [emp.mpr e]; rfl
      · rw [e]; simp
    exact call_meets F.slot_tuple_mul ⟨_, ho, rfl⟩ F.entry_tuple_mul (F.args_tuple_mul_2 _ _) (tuple_mulS l its.toArray n dd sl k t c0 c1) ⟨ho, ⟨.ref l, H, I, rfl, q1 hw⟩⟩
  · have hne : ¬ its.toArray.isEmpty = true := fun e => hw (.inl (emp.mp e))
    have hn1 : ¬ k = 1 := fun e => hw (.inr e)
    have he : its.toArray.isEmpty = false := by
      cases q : its.toArray.isEmpty with
      | true => exact absurd q hne
      | false => rfl
    have c1 : (its.toArray.isEmpty || k == 1) = false := by
      rw [he, Bool.false_or]
      exact beq_eq_false_iff_ne.mpr hn1
    have fin : ∀ ys : Array Value, ys = (List.replicate k.toNat its).flatten.toArray → EP X pins σ Q (.ref s.heap.objs.size) { s with heap := s.heap.push { cls := .type "tuple", data := .seq ys }, toks := s.toks } := fun ys e => by
      subst e
      refine ⟨.ref s.heap.objs.size, _, I.laid (t' := s.toks) (o := .tup (List.replicate k.toNat xs).flatten) (fun b ob q => Heap.get?_push_of_some _ q) (Nat.le_refl _) ?_, rfl, q2 hw _ (I.hok.fresh (Nat.le_refl _))⟩
      exact ⟨by rw [PyProof.Rows.lm_len_rep_flat, sizeLine_eq, Nat.mul_comm]; omega, _, r.rep k.toNat, IsTup.new _ _⟩
    by_cases hk : k ≤ 0
    · have c2 : (decide (k ≤ 0) || its.toArray.isEmpty) = true := by rw [decide_eq_true hk]; rfl
      refine call_meets F.slot_tuple_mul ⟨_, ho, rfl⟩ F.entry_tuple_mul (F.args_tuple_mul_2 _ _) (tuple_mul0 l its.toArray n dd sl k t c0 c1 c2) ⟨ho, fin #[] ?_⟩
      rw [show k.toNat = 0 by omega]
      rfl
    · have c2 : (decide (k ≤ 0) || its.toArray.isEmpty) = false := by rw [he, Bool.or_false]; exact decide_eq_false hk
      have hp : ((its.toArray.size : Nat) : Int) * k ≤ 1000000 := by
        rw [hsz0]
        have e : k = (k.toNat : Int) := by omega
        rw [e, ← Int.natCast_mul]
        omega
      have c4 : Builtin.Tuple.tupleTooMany (((its.toArray.size : Nat) : Int) * k) = false := by
        unfold Builtin.Tuple.tupleTooMany
        rw [sizeLine_eq]
        exact decide_eq_false (by omega)
      have flen : (List.replicate k.toNat its).flatten.length ≤ sizeLine := by
        rw [PyProof.Rows.lm_len_rep_flat, hle, sizeLine_eq, Nat.mul_comm]
        omega
      refine call_meets F.slot_tuple_mul ⟨_, ho, rfl⟩ F.entry_tuple_mul (F.args_tuple_mul_2 _ _) (tuple_mulW l its.toArray n dd sl k t c0 c1 c2 (by omega) c4 (by rw [size_rep, List.size_toArray]; exact flen)) ⟨ho, ?_⟩
      exact fin _ (size_rep _ _)
end Vl

namespace Vl
open PySem PySem.Spec PyProof.Rows L2

/-! ### * -/
def rep (k : Int) (l : List D) : List D := (List.replicate k.toNat l).flatten
abbrev rMulV (K : PySem.W.Frag) : R2 := fun x y H Q => (rI CMulV fun i j => .int (i * j)) x y H Q ∨ (rRepA K x y H Q ∨ rRep x y H Q)
theorem op_mulA {X : Cx} : OpR X (binaryOp .Mult) (rMulV X.K) := op_mulV.or (op_repA.or op_rep)
def repOk (n : Nat) (k : Int) : Bool := decide (-1000000 ≤ k) && decide (k ≤ 1000000) && decide (n * k.toNat ≤ 100000)
def gMul (d e : D) : Option D := match d, e with
  | .int i, .int j => if cMul i j = true then some (.int (i * j)) else none
  | .tup a, .int k => if (repOk a.length k && D.noOwnL a) = true then some (.tup (rep k a)) else none
  | .lst _ a, .int k => if (repOk a.length k && D.noOwnL a) = true then some (.lst true (rep k a)) else none
  | _, _ => none
section
variable {K : PySem.W.Frag} {Z Z' : Addr → Prop} {H H' : Hp}
theorem Rs.rep {ds : List D} {vs : List V} (rs : Rs K Z H ds vs []) : ∀ n : Nat, Rs K Z H (List.replicate n ds).flatten (List.replicate n vs).flatten []
  | 0 => .nil
  | n + 1 => by
    rw [List.replicate_succ, List.replicate_succ, List.flatten_cons, List.flatten_cons]
    exact rs.app (rs.rep n)
theorem repOk_of {n : Nat} {k : Int} (h : repOk n k = true) : -1000000 ≤ k ∧ k ≤ 1000000 ∧ n * k.toNat ≤ 100000 := by
  unfold repOk at h
  rw [Bool.and_eq_true, Bool.and_eq_true] at h
  exact ⟨of_decide_eq_true h.1.1, of_decide_eq_true h.1.2, of_decide_eq_true h.2⟩
theorem os_mul : OpS K (rMulV K) gMul := fun Z H d1 d2 v1 v2 F1 F2 d Q r1 r2 hg q => by
  unfold gMul at hg
  split at hg
  · split at hg
    · rename_i h
      cases hg
      exact .inl ⟨_, _, r1.int_inv, r2.int_inv, cMul_ok h, same_val (.int _) q⟩
    · cases hg
  · split at hg
    · rename_i a k h
      cases hg
      rw [Bool.and_eq_true] at h
      obtain ⟨h1, h2, h3⟩ := repOk_of h.1
      obtain ⟨l, vs, rfl, hl, rs⟩ := r1.tup_tr
      have rs := rs.nil_of h.2
      have hlen := rs.length
      refine .inr (.inl ⟨l, k, vs, rfl, r2.int_inv, SqT.of hl, h1, h2, by rw [← hlen]; omega, fun e => ?_, fun e p hp => new_tup hp (rs.rep k.toNat) q⟩)
      have e2 : Vl.rep k a = a := by
        unfold Vl.rep
        rcases e with e | e
        · rw [e] at hlen
          rw [List.eq_nil_of_length_eq_zero hlen]
          simp
        · subst e
          simp
      rw [e2] at q
      exact same_val (.tup hl rs) q
    · cases hg
  · split at hg
    · rename_i a k h
      cases hg
      rw [Bool.and_eq_true] at h
      obtain ⟨h1, h2, h3⟩ := repOk_of h.1
      obtain ⟨l, vs, G, rfl, hl, rs⟩ := r1.lst_tr
      have rs := rs.nil_of h.2
      have hlen := rs.length
      exact .inr (.inr ⟨l, k, vs, rfl, r2.int_inv, hl, by omega, by omega, by rw [← hlen, sizeLine_eq]; omega, fun p hp => new_list hp (rs.rep k.toNat) q⟩)
    · cases hg
  · cases hg

/-! ### subscripts -/
def gIx (d e : D) : Option D := match d, e with
  | .tup l, .int i => L2.atI l i
  | .lst _ l, .int i => L2.atI l i
  | .scr l, .int i => L2.atI l i
  | .str s, .int i => if szOk s.length = true then (L2.atI s.cps.toList i).map fun c => .str ⟨#[c]⟩ else none
  | _, _ => none
theorem Rs.atI {ds : List D} {vs : List V} {F : List Addr} {i : Int} {d : D} (rs : Rs K Z H ds vs F) (h : L2.atI ds i = some d) : ∃ v G, L2.atI vs i = some v ∧ R K Z H d v G ∧ ∀ a ∈ G, a ∈ F := by
  unfold L2.atI at h
  obtain ⟨j, h1, h2⟩ := Option.bind_eq_some_iff.mp h
  obtain ⟨v, G, h3, h4, h5⟩ := rs.get h2
  refine ⟨v, G, ?_, h4, h5⟩
  unfold L2.atI
  rw [← rs.length, h1]
  exact h3
theorem os_ix : OpW K (rIx K) gIx := fun Z H d1 d2 v1 v2 F1 F2 d Q r1 r2 hg q => by
  unfold gIx at hg
  split at hg
  · rename_i l i
    obtain ⟨a, vs, rfl, ha, rs⟩ := r1.tup_inv
    obtain ⟨v, G, h1, h2, h3⟩ := rs.atI hg
    exact .inr (.inl ⟨a, vs, i, v, rfl, r2.int_inv, ha, h1, q v H G (Keep.refl _ _) h2 h3⟩)
  · rename_i o l i
    obtain ⟨a, vs, G0, rfl, ha, rs, hs⟩ := r1.lst_at
    obtain ⟨v, G, h1, h2, h3⟩ := rs.atI hg
    exact .inl ⟨a, vs, i, v, rfl, r2.int_inv, ha, h1, q v H G (Keep.refl _ _) h2 fun b hb => hs b (h3 b hb)⟩
  · rename_i l i
    obtain ⟨a, vs, rfl, rfl, ha, rs⟩ := r1.scr_at
    obtain ⟨v, G, h1, h2, h3⟩ := rs.atI hg
    exact .inl ⟨a, vs, i, v, rfl, r2.int_inv, ha, h1, q v H G (Keep.refl _ _) h2 fun b hb => h3 b hb⟩
  · rename_i s i
    split at hg
    · rename_i hz
      rw [Option.map_eq_some_iff] at hg
      obtain ⟨c, hc, rfl⟩ := hg
      exact .inr (.inr ⟨s, i, c, r1.str_inv, r2.int_inv, sz_of hz, hc, q _ H [] (Keep.refl _ _) (.str _) fun _ h => (by cases h)⟩)
    · cases hg
  · cases hg
end
theorem pev_ixs {X : Cx} {T1 T2 O1 O2 : List Nat} {x1 x2 : Bool} {a b : Expr} {fa fb : M D} {pos : Pos} (ha : PEV X T1 O1 x1 a fa) (hb : PEV X T2 O2 x2 b fb) (hp : PlainIx b := by intro _ _; rfl) : PEV X (T1 ++ T2) O1 false (.Subscript a b pos) (fOp O1 T2 gIx fa fb) :=
  pev_ix (hr := ix_seq) os_ix ha hb hp

/-! ### slices -/
def tVO (K : PySem.W.Frag) (T : List Nat) (f : M (Option Int)) : TO := fun σ H Q => ∃ Z ρ Fs o ρ', Rel K Z ρ σ H Fs ∧ f ρ = some (o, ρ') ∧
  ∀ H' Z' Fs', Rel K Z' ρ' σ H' Fs' → Frm T Z ρ Fs H Z' ρ' Fs' H' → Q o H'
abbrev POV (X : Cx) (T : List Nat) (e : Option Expr) (f : M (Option Int)) : Prop := PO X e (tVO X.K T f)
theorem PO.imp {X : Cx} {e : Option Expr} {t t' : TO} (h : PO X e t) (i : ∀ σ H Q, t' σ H Q → t σ H Q) : PO X e t' := ⟨fun pins s σ H Q I q => h.run pins s σ H Q I (i σ H Q q)⟩
def oNone : M (Option Int) := fun ρ => some (none, ρ)
def oSome (f : M D) : M (Option Int) := fun ρ => (f ρ).bind fun p => match p.1 with
  | .int i => some (some i, p.2)
  | _ => none
def cutL (xs : List D) (lo hi : Option Int) : List D := (xs.drop (HT.sIx xs.length 0 lo)).take (HT.sIx xs.length xs.length hi - HT.sIx xs.length 0 lo)
def gSl (d : D) (lo hi : Option Int) : Option D := match d with
  | .tup l => if D.noOwnL l = true then some (.tup (cutL l lo hi)) else none
  | .lst _ l => if D.noOwnL l = true then some (.lst true (cutL l lo hi)) else none
  | .scr l => if D.noOwnL l = true then some (.lst true (cutL l lo hi)) else none
  | .str s => if szOk s.length = true then some (.str (cutS s lo hi)) else none
  | _ => none
def fSl (O1 T2 : List Nat) (f : M D) (fl fh : M (Option Int)) : M D := fun ρ => (f ρ).bind fun p => (fl p.2).bind fun l => (fh l.2).bind fun h => if safe O1 T2 p.1 = true then (gSl p.1 l.1 h.1).bind fun d => some (d, h.2) else none
section
variable {X : Cx} {T T1 T2 O O1 : List Nat} {x : Bool} {e : Expr} {lo hi : Option Expr} {f : M D} {fl fh : M (Option Int)} {pos p2 : Pos}
theorem pov_none : POV X [] none oNone := by
  refine PO.imp po_none fun σ H Q h => ?_
  obtain ⟨Z, ρ, Fs, o, ρ', rel, hf, q⟩ := h
  cases hf
  exact q H Z Fs rel (Frm.refl _)
theorem pov_some (h : PEV X T O x e f) : POV X T (some e) (oSome f) := by
  refine PO.imp (po_some h) fun σ H Q h => ?_
  obtain ⟨Z, ρ, Fs, o, ρ', rel, hf, q⟩ := h
  unfold oSome at hf
  obtain ⟨⟨d, ρ1⟩, h1, hf⟩ := Option.bind_eq_some_iff.mp hf
  split at hf
  · rename_i i e
    cases hf
    have e : d = .int i := e
    subst e
    exact ⟨Z, ρ, Fs, _, _, rel, h1, fun v H' Z' Fs' F rel' f' w c => ⟨i, w.r.int_inv, q H' Z' Fs' rel' f'⟩⟩
  · cases hf
abbrev rSlV (K : PySem.W.Frag) : V → Option Int → Option Int → Hp → VK → Prop := fun x lo hi H Q => rSlA K x lo hi H Q ∨ (rSlL K x lo hi H Q ∨ rSlS x lo hi H Q)
theorem sl_V : SlR X (rSlV X.K) := sl_tupA.or (sl_list.or sl_str)
theorem Rs.drop0 {K : PySem.W.Frag} {Z : Addr → Prop} {H : Hp} : ∀ {ds : List D} {vs : List V} (n : Nat), Rs K Z H ds vs [] → Rs K Z H (ds.drop n) (vs.drop n) []
  | _, _, 0, r => r
  | [], [], n + 1, r => r
  | d :: ds, [], n + 1, r => nomatch r
  | [], v :: vs, n + 1, r => nomatch r
  | d :: ds, v :: vs, n + 1, r => by
    obtain ⟨v', ws, F1, F2, e1, e2, r1, r2⟩ := r.uncons
    cases e1
    obtain ⟨e3, e4⟩ := app_eq_nil e2.symm
    subst e3 e4
    exact Rs.drop0 n r2
theorem Rs.take0 {K : PySem.W.Frag} {Z : Addr → Prop} {H : Hp} : ∀ {ds : List D} {vs : List V} (n : Nat), Rs K Z H ds vs [] → Rs K Z H (ds.take n) (vs.take n) []
  | _, _, 0, r => .nil
  | [], [], n + 1, r => .nil
  | d :: ds, [], n + 1, r => nomatch r
  | [], v :: vs, n + 1, r => nomatch r
  | d :: ds, v :: vs, n + 1, r => by
    obtain ⟨v', ws, F1, F2, e1, e2, r1, r2⟩ := r.uncons
    cases e1
    obtain ⟨e3, e4⟩ := app_eq_nil e2.symm
    subst e3 e4
    exact .cons0 r1 (Rs.take0 n r2)
theorem Rs.cut {K : PySem.W.Frag} {Z : Addr → Prop} {H : Hp} {ds : List D} {vs : List V} (r : Rs K Z H ds vs []) (lo hi : Option Int) : Rs K Z H (cutL ds lo hi) (cutV vs lo hi) [] := by
  unfold cutL cutV
  rw [r.length]
  exact (r.drop0 _).take0 _
theorem cut_whole {xs : List D} {lo hi : Option Int} (h : HT.sIx xs.length 0 lo = 0 ∧ HT.sIx xs.length xs.length hi = xs.length) : cutL xs lo hi = xs := by
  unfold cutL
  rw [h.1, h.2, List.drop_zero, Nat.sub_zero, List.take_length]
theorem sl_data {K : PySem.W.Frag} {Z : Addr → Prop} {H : Hp} {d d' : D} {v : V} {F : List Addr} {lo hi : Option Int} {Q : VK} (r1 : R K Z H d v F) (hg : gSl d lo hi = some d') (q : ∀ v H' F, Keep M0 H H' → R K Z H' d' v F → F.Nodup → (∀ a ∈ F, H a = none) → Q v H') : rSlV K v lo hi H Q := by
  unfold gSl at hg
  split at hg
  · split at hg
    · rename_i l hn
      cases hg
      obtain ⟨a, vs, rfl, ha, rs⟩ := r1.tup_tr
      have rs := rs.nil_of hn
      refine .inl ⟨a, vs, rfl, SqT.of ha, fun hw => ?_, fun _ p hp => new_tup hp (rs.cut lo hi) q⟩
      rw [← rs.length] at hw
      rw [cut_whole hw] at q
      exact same_val (.tup ha rs) q
    · cases hg
  · split at hg
    · rename_i o l hn
      cases hg
      obtain ⟨a, vs, G, rfl, ha, rs, _⟩ := r1.lst_at
      exact .inr (.inl ⟨a, vs, rfl, ha, fun p hp => new_list hp ((rs.nil_of hn).cut lo hi) q⟩)
    · cases hg
  · split at hg
    · rename_i l hn
      cases hg
      obtain ⟨a, vs, rfl, rfl, ha, rs⟩ := r1.scr_at
      exact .inr (.inl ⟨a, vs, rfl, ha, fun p hp => new_list hp (rs.cut lo hi) q⟩)
    · cases hg
  · split at hg
    · rename_i s hz
      cases hg
      exact .inr (.inr ⟨s, r1.str_inv, sz_of hz, same_val (.str _) q⟩)
    · cases hg
  · cases hg
theorem pev_slice (he : PEV X T O x e f) (hl : POV X T1 lo fl) (hh : POV X T2 hi fh) : PEV X (T ++ (T1 ++ T2)) [] true (.Subscript e (.Slice lo hi none p2) pos) (fSl O (T1 ++ T2) f fl fh) := by
  refine PE.imp (pe_slice sl_V he hl hh) fun σ H Q h => ?_
  obtain ⟨Z, ρ, Fs, d, ρ', rel, hf, q⟩ := h
  unfold fSl at hf
  obtain ⟨⟨d1, ρ1⟩, h1, hf⟩ := Option.bind_eq_some_iff.mp hf
  obtain ⟨⟨l, ρ2⟩, h2, hf⟩ := Option.bind_eq_some_iff.mp hf
  obtain ⟨⟨u, ρ3⟩, h3, hf⟩ := Option.bind_eq_some_iff.mp hf
  split at hf
  · rename_i hsf
    obtain ⟨d', h4, hf⟩ := Option.bind_eq_some_iff.mp hf
    cases hf
    refine ⟨Z, ρ, Fs, d1, ρ1, rel, h1, fun v1 H1 Z1 Fs1 F1 rel1 f1 w1 c1 => ⟨Z1, ρ1, Fs1, l, ρ2, rel1, h2, fun H2 Z2 Fs2 rel2 f2 => ⟨Z2, ρ2, Fs2, u, ρ3, rel2, h3, fun H3 Z3 Fs3 rel3 f3 => ?_⟩⟩⟩
    have f23 := f2.trans f3
    have w3 := w1.keep rel1 f23 hsf
    refine sl_data w3.r h4 fun v H' F k r nd nw => ?_
    have ff := f1.trans f23
    have fz := ff.trans (Frm.pureT [] k)
    rw [List.append_nil] at fz
    exact q v H' Z3 Fs3 F (rel3.keep0 k) fz (Val.new rel3 r nd nw) (Cf.new ff.keep nw)
  · cases hf
end

/-! ### built-ins -/
def gLen : List D → Option D
  | [.tup l] => some (.int l.length)
  | [.lst _ l] => some (.int l.length)
  | [.scr l] => some (.int l.length)
  | [.str s] => if szOk s.length = true then some (.int s.length) else none
  | [.dct true _ l] => some (.int l.length)
  | _ => none
section
variable {X : Cx} {K : PySem.W.Frag} {Z : Addr → Prop} {H : Hp}
abbrev rLenV (K : PySem.W.Frag) : List V → Hp → VK → Prop := fun xs H Q => (∃ p ys, xs = [.ref p] ∧ (SqL K H p ys ∨ SqT K H p ys) ∧ Q (.int ys.length) H) ∨ ((∃ z, xs = [.str z] ∧ z.length ≤ sizeLine ∧ Q (.int z.length) H) ∨
  ((∃ a kvs, xs = [V.ref a] ∧ H a = some (.dK kvs) ∧ Q (.int kvs.length) H) ∨ rLenT xs H Q))
theorem call_lenV : CallR X (.builtin "len") (rLenV X.K) := call_len_seq.or (call_len_str.or (call_lenD.or call_len_dT))
theorem Rs.one_inv {d : D} {vs : List V} {F : List Addr} (rs : Rs K Z H [d] vs F) : ∃ v, vs = [v] ∧ R K Z H d v F := by
  obtain ⟨v, ws, F1, F2, rfl, rfl, r, rs⟩ := rs.uncons
  cases rs
  rw [List.append_nil]
  exact ⟨v, rfl, r⟩
theorem Rs.two_inv {d e : D} {vs : List V} {F : List Addr} (rs : Rs K Z H [d, e] vs F) : ∃ v w F1 F2, vs = [v, w] ∧ R K Z H d v F1 ∧ R K Z H e w F2 := by
  obtain ⟨v, ws, F1, F2, rfl, rfl, r, rs⟩ := rs.uncons
  obtain ⟨w, rfl, r2⟩ := rs.one_inv
  exact ⟨v, w, F1, F2, rfl, r, r2⟩
theorem ClS.here {r : List V → Hp → VK → Prop} {g : List D → Option D} (h : ∀ (Z : Addr → Prop) (H : Hp) (ds : List D) (vs : List V) (F1 : List Addr) (d : D) (Q : VK), Rs K Z H ds vs F1 → g ds = some d → (∀ v, R K Z H d v [] → Q v H) → r vs H Q) : ClS K r g :=
  fun Z H ds vs F1 d Q rs hg q => h Z H ds vs F1 d Q rs hg fun v rv => same_val rv q
theorem R.dct_own {t : Bool} {kvs : List (D × D)} {v : V} {F : List Addr} (r : R K Z H (.dct true t kvs) v F) : ∃ a vs G, v = .ref a ∧ F = a :: G ∧ DcAt H a t (kvs.map (·.1)) vs ∧ Rs K Z H (kvs.map (·.2)) vs G := by
  cases r with
  | dow h rs => exact ⟨_, _, _, rfl, rfl, h, rs⟩
theorem cs_len : ClS K (rLenV K) gLen := ClS.here fun Z H ds vs F1 d Q rs hg q => by
  unfold gLen at hg
  split at hg
  · cases hg
    obtain ⟨v, rfl, r⟩ := rs.one_inv
    obtain ⟨a, ws, rfl, ha, r2⟩ := r.tup_inv
    exact .inl ⟨a, ws, rfl, .inr ha, by rw [← r2.length]; exact q _ (.int _)⟩
  · cases hg
    obtain ⟨v, rfl, r⟩ := rs.one_inv
    obtain ⟨a, ws, G, rfl, ha, r2, _⟩ := r.lst_at
    exact .inl ⟨a, ws, rfl, .inl ha, by rw [← r2.length]; exact q _ (.int _)⟩
  · cases hg
    obtain ⟨v, rfl, r⟩ := rs.one_inv
    obtain ⟨a, ws, rfl, _, ha, r2⟩ := r.scr_at
    exact .inl ⟨a, ws, rfl, .inl ha, by rw [← r2.length]; exact q _ (.int _)⟩
  · split at hg
    · rename_i hz
      cases hg
      obtain ⟨v, rfl, r⟩ := rs.one_inv
      rw [r.str_inv]
      exact .inr (.inl ⟨_, rfl, sz_of hz, q _ (.int _)⟩)
    · cases hg
  · cases hg
    rename_i t l
    obtain ⟨v, rfl, r⟩ := rs.one_inv
    obtain ⟨a, ws, G, rfl, rfl, ha, r2⟩ := r.dct_own
    obtain ⟨o, h, ho⟩ := ha
    cases t with
    | false =>
      obtain ⟨kvs, e1, e2, e3⟩ := ho
      subst e1
      have hl : kvs.length = l.length := by have := congrArg List.length e2; simpa using this.symm
      exact .inr (.inr (.inl ⟨a, kvs, rfl, h, by rw [hl]; exact q _ (.int _)⟩))
    | true =>
      obtain ⟨kvs, e1, e2, e3⟩ := ho
      subst e1
      have hl : kvs.length = l.length := by have := congrArg List.length e2; simpa using this.symm
      exact .inr (.inr (.inr ⟨a, kvs, rfl, h, by rw [hl]; exact q _ (.int _)⟩))
  · cases hg
def gAbs : List D → Option D
  | [.int i] => some (.int (if i < 0 then -i else i))
  | _ => none
theorem cs_abs : ClS K (fun xs H Q => ∃ i, xs = [.int i] ∧ Q (.int (if i < 0 then -i else i)) H) gAbs := ClS.here fun Z H ds vs F1 d Q rs hg q => by
  unfold gAbs at hg
  split at hg
  · cases hg
    exact ⟨_, rs.ints1, q _ (.int _)⟩
  · cases hg
def gMax2 : List D → Option D
  | [.int i, .int j] => some (.int (if j > i then j else i))
  | _ => none
def gMin2 : List D → Option D
  | [.int i, .int j] => some (.int (if j < i then j else i))
  | _ => none
theorem cs_max2 : ClS K (fun xs H Q => ∃ i j, xs = [.int i, .int j] ∧ Q (.int (if j > i then j else i)) H) gMax2 := ClS.here fun Z H ds vs F1 d Q rs hg q => by
  unfold gMax2 at hg
  split at hg
  · cases hg
    exact ⟨_, _, rs.ints2, q _ (.int _)⟩
  · cases hg
theorem cs_min2 : ClS K (fun xs H Q => ∃ i j, xs = [.int i, .int j] ∧ Q (.int (if j < i then j else i)) H) gMin2 := ClS.here fun Z H ds vs F1 d Q rs hg q => by
  unfold gMin2 at hg
  split at hg
  · cases hg
    exact ⟨_, _, rs.ints2, q _ (.int _)⟩
  · cases hg
def gInt : List D → Option D
  | [.int i] => some (.int i)
  | [.bl b] => some (.int (if b then 1 else 0))
  | _ => none
theorem cs_int : ClS K (fun xs H Q => (∃ i, xs = [.int i] ∧ Q (.int i) H) ∨ ∃ k, xs = [.bl k] ∧ Q (.int (if k then 1 else 0)) H) gInt := ClS.here fun Z H ds vs F1 d Q rs hg q => by
  unfold gInt at hg
  split at hg
  · cases hg
    exact .inl ⟨_, rs.ints1, q _ (.int _)⟩
  · cases hg
    obtain ⟨v, rfl, r⟩ := rs.one_inv
    exact .inr ⟨_, by rw [r.bl_inv], q _ (.int _)⟩
  · cases hg
/-- the ints of a row -/
def ints? : List D → Option (List Int)
  | [] => some []
  | .int i :: r => (ints? r).bind fun l => some (i :: l)
  | _ => none
theorem ints?_of : ∀ {l : List D} {ns : List Int}, ints? l = some ns → l = ns.map D.int
  | [], ns, h => by cases h; rfl
  | .int i :: r, ns, h => by
    obtain ⟨l, h1, h2⟩ := Option.bind_eq_some_iff.mp h
    cases h2
    rw [ints?_of h1]
    rfl
  | .non :: _, _, h => nomatch h
  | .bl _ :: _, _, h => nomatch h
  | .str _ :: _, _, h => nomatch h
  | .tup _ :: _, _, h => nomatch h
  | .lst _ _ :: _, _, h => nomatch h
  | .dct _ _ _ :: _, _, h => nomatch h
  | .scr _ :: _, _, h => nomatch h
theorem ints?_map : ∀ ns : List Int, ints? (ns.map D.int) = some ns
  | [] => rfl
  | n :: r => by
    show (ints? (r.map D.int)).bind _ = _
    rw [ints?_map r]
    rfl
theorem Rs.intsV : ∀ {ns : List Int} {vs : List V} {F : List Addr}, Rs K Z H (ns.map D.int) vs F → vs = ns.map V.int
  | [], _, _, .nil => rfl
  | n :: r, _, _, rs => by
    obtain ⟨v, ws, F1, F2, rfl, rfl, r1, rs⟩ := Rs.uncons rs
    rw [r1.int_inv, rs.intsV]
    rfl
def seqOf : D → Option (List D)
  | .lst _ l => some l
  | .scr l => some l
  | _ => none
theorem seqOf_at {d : D} {l : List D} {v : V} {F : List Addr} (h : seqOf d = some l) (r : R K Z H d v F) : ∃ a vs G, v = .ref a ∧ SqL K H a vs ∧ Rs K Z H l vs G ∧ ∀ b ∈ G, b ∈ F := by
  unfold seqOf at h
  split at h
  · cases h
    exact r.lst_at
  · cases h
    obtain ⟨a, vs, rfl, rfl, h1, h2⟩ := r.scr_at
    exact ⟨a, vs, [], rfl, h1, h2, fun _ h => h⟩
  · cases h
def gSum : List D → Option D
  | [d] => (seqOf d).bind fun l => (ints? l).bind fun ns => some (.int ns.sum)
  | _ => none
theorem cs_sum : ClS K (rSum K) gSum := ClS.here fun Z H ds vs F1 d Q rs hg q => by
  unfold gSum at hg
  split at hg
  · obtain ⟨l, h1, hg⟩ := Option.bind_eq_some_iff.mp hg
    obtain ⟨ns, h2, hg⟩ := Option.bind_eq_some_iff.mp hg
    cases hg
    obtain ⟨v, rfl, r⟩ := rs.one_inv
    obtain ⟨a, ws, G, rfl, ha, r2, _⟩ := seqOf_at h1 r
    rw [ints?_of h2] at r2
    rw [r2.intsV] at ha
    exact ⟨a, ns, rfl, ha, q _ (.int _)⟩
  · cases hg
def bls? : List D → Option (List Bool)
  | [] => some []
  | .bl i :: r => (bls? r).bind fun l => some (i :: l)
  | _ => none
theorem bls?_of : ∀ {l : List D} {ns : List Bool}, bls? l = some ns → l = ns.map D.bl
  | [], ns, h => by cases h; rfl
  | .bl i :: r, ns, h => by
    obtain ⟨l, h1, h2⟩ := Option.bind_eq_some_iff.mp h
    cases h2
    rw [bls?_of h1]
    rfl
  | .non :: _, _, h => nomatch h
  | .int _ :: _, _, h => nomatch h
  | .str _ :: _, _, h => nomatch h
  | .tup _ :: _, _, h => nomatch h
  | .lst _ _ :: _, _, h => nomatch h
  | .dct _ _ _ :: _, _, h => nomatch h
  | .scr _ :: _, _, h => nomatch h
theorem bls?_map : ∀ ns : List Bool, bls? (ns.map D.bl) = some ns
  | [] => rfl
  | n :: r => by
    show (bls? (r.map D.bl)).bind _ = _
    rw [bls?_map r]
    rfl
theorem Rs.blsV : ∀ {ns : List Bool} {vs : List V} {F : List Addr}, Rs K Z H (ns.map D.bl) vs F → vs = ns.map V.bl
  | [], _, _, .nil => rfl
  | n :: r, _, _, rs => by
    obtain ⟨v, ws, F1, F2, rfl, rfl, r1, rs⟩ := Rs.uncons rs
    rw [r1.bl_inv, rs.blsV]
    rfl
def gAll : List D → Option D
  | [d] => (seqOf d).bind fun l => (bls? l).bind fun ns => some (.bl (ns.all id))
  | _ => none
def gAny : List D → Option D
  | [d] => (seqOf d).bind fun l => (bls? l).bind fun ns => some (.bl (ns.any id))
  | _ => none
/-- a new list of the items of a list, a tuple -/
def gList : List D → Option D
  | [.tup l] => if D.noOwnL l = true then some (.lst true l) else none
  | [.lst _ l] => if D.noOwnL l = true then some (.lst true l) else none
  | [.scr l] => if D.noOwnL l = true then some (.lst true l) else none
  | _ => none
theorem cs_list : ClS K (fun xs H Q => ∃ p ys, xs = [.ref p] ∧ (SqL K H p ys ∨ SqT K H p ys) ∧ ∀ l, H l = none → Q (.ref l) (upd H l (.lst ys))) gList := fun Z H ds vs F1 d Q rs hg q => by
  unfold gList at hg
  split at hg
  · split at hg
    · rename_i hn
      cases hg
      obtain ⟨v, rfl, r⟩ := rs.one_inv
      obtain ⟨a, ws, rfl, ha, r2⟩ := r.tup_inv
      exact ⟨a, ws, rfl, .inr ha, fun p hp => new_list hp (r2.nil_of hn) q⟩
    · cases hg
  · split at hg
    · rename_i hn
      cases hg
      obtain ⟨v, rfl, r⟩ := rs.one_inv
      obtain ⟨a, ws, G, rfl, ha, r2, _⟩ := r.lst_at
      exact ⟨a, ws, rfl, .inl ha, fun p hp => new_list hp (r2.nil_of hn) q⟩
    · cases hg
  · split at hg
    · rename_i hn
      cases hg
      obtain ⟨v, rfl, r⟩ := rs.one_inv
      obtain ⟨a, ws, rfl, rfl, ha, r2⟩ := r.scr_at
      exact ⟨a, ws, rfl, .inl ha, fun p hp => new_list hp r2 q⟩
    · cases hg
  · cases hg
def gTuple : List D → Option D
  | [.tup l] => if D.noOwnL l = true then some (.tup l) else none
  | [.lst _ l] => if D.noOwnL l = true then some (.tup l) else none
  | [.scr l] => if D.noOwnL l = true then some (.tup l) else none
  | _ => none
theorem cs_tuple : ClS K (fun xs H Q => ∃ p ys, xs = [.ref p] ∧ ((SqL K H p ys ∧ ∀ l, H l = none → Q (.ref l) (upd H l (.tup ys))) ∨ (SqT K H p ys ∧ Q (.ref p) H))) gTuple := fun Z H ds vs F1 d Q rs hg q => by
  unfold gTuple at hg
  split at hg
  · split at hg
    · rename_i hn
      cases hg
      obtain ⟨v, rfl, r⟩ := rs.one_inv
      have e := r.no (show (D.tup _).noOwn = true from hn)
      subst e
      obtain ⟨a, ws, rfl, ha, r2⟩ := r.tup_inv
      exact ⟨a, ws, rfl, .inr ⟨ha, same_val r q⟩⟩
    · cases hg
  · split at hg
    · rename_i hn
      cases hg
      obtain ⟨v, rfl, r⟩ := rs.one_inv
      obtain ⟨a, ws, G, rfl, ha, r2, _⟩ := r.lst_at
      exact ⟨a, ws, rfl, .inl ⟨ha, fun p hp => new_tup hp (r2.nil_of hn) q⟩⟩
    · cases hg
  · split at hg
    · rename_i hn
      cases hg
      obtain ⟨v, rfl, r⟩ := rs.one_inv
      obtain ⟨a, ws, rfl, rfl, ha, r2⟩ := r.scr_at
      exact ⟨a, ws, rfl, .inl ⟨ha, fun p hp => new_tup hp r2 q⟩⟩
    · cases hg
  · cases hg
end
end Vl

namespace Vl
open PySem PySem.Spec PyProof.Rows L2

section
variable {X : Cx} {K : PySem.W.Frag} {Z : Addr → Prop} {H : Hp}
theorem cs_all : ClS K (rAll K) gAll := ClS.here fun Z H ds vs F1 d Q rs hg q => by
  unfold gAll at hg
  split at hg
  · obtain ⟨l, h1, hg⟩ := Option.bind_eq_some_iff.mp hg
    obtain ⟨ns, h2, hg⟩ := Option.bind_eq_some_iff.mp hg
    cases hg
    obtain ⟨v, rfl, r⟩ := rs.one_inv
    obtain ⟨a, ws, G, rfl, ha, r2, _⟩ := seqOf_at h1 r
    rw [bls?_of h2] at r2
    rw [r2.blsV] at ha
    exact ⟨a, ns, rfl, ha, q _ (.bl _)⟩
  · cases hg
theorem cs_any : ClS K (rAny K) gAny := ClS.here fun Z H ds vs F1 d Q rs hg q => by
  unfold gAny at hg
  split at hg
  · obtain ⟨l, h1, hg⟩ := Option.bind_eq_some_iff.mp hg
    obtain ⟨ns, h2, hg⟩ := Option.bind_eq_some_iff.mp hg
    cases hg
    obtain ⟨v, rfl, r⟩ := rs.one_inv
    obtain ⟨a, ws, G, rfl, ha, r2, _⟩ := seqOf_at h1 r
    rw [bls?_of h2] at r2
    rw [r2.blsV] at ha
    exact ⟨a, ns, rfl, ha, q _ (.bl _)⟩
  · cases hg
def minI : List Int → Option Int
  | [] => none
  | n :: r => some (r.foldl min n)
def maxI : List Int → Option Int
  | [] => none
  | n :: r => some (r.foldl max n)
theorem foldl_min : ∀ (r : List Int) (n : Int), (r.foldl min n ∈ n :: r) ∧ ∀ y ∈ n :: r, r.foldl min n ≤ y
  | [], n => ⟨List.mem_cons_self, fun y hy => by simp at hy; subst hy; exact Int.le_refl _⟩
  | m :: r, n => by
    obtain ⟨h1, h2⟩ := foldl_min r (min n m)
    constructor
    · show r.foldl min (min n m) ∈ _
      rcases List.mem_cons.mp h1 with e | h1
      · rw [e]
        by_cases q : n ≤ m
        · rw [Int.min_eq_left q]; simp
        · rw [Int.min_eq_right (by omega)]; simp
      · exact List.mem_cons_of_mem _ (List.mem_cons_of_mem _ h1)
    · intro y hy
      show r.foldl min (min n m) ≤ y
      have h0 := h2 (min n m) List.mem_cons_self
      rcases List.mem_cons.mp hy with e | hy
      · subst e; have := Int.min_le_left y m; omega
      · rcases List.mem_cons.mp hy with e | hy
        · subst e; have := Int.min_le_right n y; omega
        · exact h2 y (List.mem_cons_of_mem _ hy)
theorem foldl_max : ∀ (r : List Int) (n : Int), (r.foldl max n ∈ n :: r) ∧ ∀ y ∈ n :: r, y ≤ r.foldl max n
  | [], n => ⟨List.mem_cons_self, fun y hy => by simp at hy; subst hy; exact Int.le_refl _⟩
  | m :: r, n => by
    obtain ⟨h1, h2⟩ := foldl_max r (max n m)
    constructor
    · show r.foldl max (max n m) ∈ _
      rcases List.mem_cons.mp h1 with e | h1
      · rw [e]
        by_cases q : n ≤ m
        · rw [Int.max_eq_right q]; simp
        · rw [Int.max_eq_left (by omega)]; simp
      · exact List.mem_cons_of_mem _ (List.mem_cons_of_mem _ h1)
    · intro y hy
      show y ≤ r.foldl max (max n m)
      have h0 := h2 (max n m) List.mem_cons_self
      rcases List.mem_cons.mp hy with e | hy
      · subst e; have := Int.le_max_left y m; omega
      · rcases List.mem_cons.mp hy with e | hy
        · subst e; have := Int.le_max_right n y; omega
        · exact h2 y (List.mem_cons_of_mem _ hy)
def gMin1 : List D → Option D
  | [d] => (seqOf d).bind fun l => (ints? l).bind fun ns => (minI ns).bind fun m => some (.int m)
  | _ => none
def gMax1 : List D → Option D
  | [d] => (seqOf d).bind fun l => (ints? l).bind fun ns => (maxI ns).bind fun m => some (.int m)
  | _ => none
theorem cs_min1 : ClS K (rMin K) gMin1 := ClS.here fun Z H ds vs F1 d Q rs hg q => by
  unfold gMin1 at hg
  split at hg
  · obtain ⟨l, h1, hg⟩ := Option.bind_eq_some_iff.mp hg
    obtain ⟨ns, h2, hg⟩ := Option.bind_eq_some_iff.mp hg
    obtain ⟨m, h3, hg⟩ := Option.bind_eq_some_iff.mp hg
    cases hg
    obtain ⟨v, rfl, r⟩ := rs.one_inv
    obtain ⟨a, ws, G, rfl, ha, r2, _⟩ := seqOf_at h1 r
    rw [ints?_of h2] at r2
    rw [r2.intsV] at ha
    cases ns with
    | nil => cases h3
    | cons n ns =>
      cases h3
      obtain ⟨e1, e2⟩ := foldl_min ns n
      refine ⟨a, _, rfl, ha, by simp, fun m hm hl => ?_⟩
      have : m = ns.foldl min n := Int.le_antisymm (hl _ e1) (e2 m hm)
      subst this
      exact q _ (.int _)
  · cases hg
theorem cs_max1 : ClS K (rMax K) gMax1 := ClS.here fun Z H ds vs F1 d Q rs hg q => by
  unfold gMax1 at hg
  split at hg
  · obtain ⟨l, h1, hg⟩ := Option.bind_eq_some_iff.mp hg
    obtain ⟨ns, h2, hg⟩ := Option.bind_eq_some_iff.mp hg
    obtain ⟨m, h3, hg⟩ := Option.bind_eq_some_iff.mp hg
    cases hg
    obtain ⟨v, rfl, r⟩ := rs.one_inv
    obtain ⟨a, ws, G, rfl, ha, r2, _⟩ := seqOf_at h1 r
    rw [ints?_of h2] at r2
    rw [r2.intsV] at ha
    cases ns with
    | nil => cases h3
    | cons n ns =>
      cases h3
      obtain ⟨e1, e2⟩ := foldl_max ns n
      refine ⟨a, _, rfl, ha, by simp, fun m hm hl => ?_⟩
      have : m = ns.foldl max n := Int.le_antisymm (e2 m hm) (hl _ e1)
      subst this
      exact q _ (.int _)
  · cases hg
/-- min, max of two ints or of a list -/
abbrev rMinV (K : PySem.W.Frag) : List V → Hp → VK → Prop := fun xs H Q => (∃ i j, xs = [.int i, .int j] ∧ Q (.int (if j < i then j else i)) H) ∨ rMin K xs H Q
abbrev rMaxV (K : PySem.W.Frag) : List V → Hp → VK → Prop := fun xs H Q => (∃ i j, xs = [.int i, .int j] ∧ Q (.int (if j > i then j else i)) H) ∨ rMax K xs H Q
theorem call_minV (hc : X.calm = true) : CallR X (.builtin "min") (rMinV X.K) := (call_min2 hc).or (cr_min hc)
theorem call_maxV (hc : X.calm = true) : CallR X (.builtin "max") (rMaxV X.K) := (call_max2 hc).or (cr_max hc)
def gMin (ds : List D) : Option D := match ds with
  | [_] => gMin1 ds
  | _ => gMin2 ds
def gMax (ds : List D) : Option D := match ds with
  | [_] => gMax1 ds
  | _ => gMax2 ds
theorem cs_min : ClS K (rMinV K) gMin := fun Z H ds vs F1 d Q rs hg q => by
  unfold gMin at hg
  split at hg
  · exact .inr (cs_min1 Z H _ vs F1 d Q rs hg q)
  · exact .inl (cs_min2 Z H _ vs F1 d Q rs hg q)
theorem cs_max : ClS K (rMaxV K) gMax := fun Z H ds vs F1 d Q rs hg q => by
  unfold gMax at hg
  split at hg
  · exact .inr (cs_max1 Z H _ vs F1 d Q rs hg q)
  · exact .inl (cs_max2 Z H _ vs F1 d Q rs hg q)

/-! ### sorted of ints -/
def insI (x : Int) : List Int → List Int
  | [] => [x]
  | y :: r => if x ≤ y then x :: y :: r else y :: insI x r
def srtI : List Int → List Int
  | [] => []
  | x :: r => insI x (srtI r)
theorem insI_perm (x : Int) : ∀ l, (insI x l).Perm (x :: l)
  | [] => List.Perm.refl _
  | y :: r => by
    unfold insI
    split
    · exact List.Perm.refl _
    · exact ((insI_perm x r).cons y).trans (List.Perm.swap x y r)
theorem srtI_perm : ∀ l, (srtI l).Perm l
  | [] => List.Perm.refl _
  | x :: r => (insI_perm x (srtI r)).trans ((srtI_perm r).cons x)
theorem insI_sorted (x : Int) : ∀ {l : List Int}, l.Pairwise (· ≤ ·) → (insI x l).Pairwise (· ≤ ·)
  | [], _ => by simp [insI]
  | y :: r, h => by
    obtain ⟨h1, h2⟩ := List.pairwise_cons.mp h
    unfold insI
    split
    · rename_i hxy
      refine List.pairwise_cons.mpr ⟨fun z hz => ?_, h⟩
      rcases List.mem_cons.mp hz with e | hz
      · subst e; exact hxy
      · exact Int.le_trans hxy (h1 z hz)
    · rename_i hxy
      refine List.pairwise_cons.mpr ⟨fun z hz => ?_, insI_sorted x h2⟩
      rcases List.mem_cons.mp ((insI_perm x r).mem_iff.mp hz) with e | hz
      · subst e; omega
      · exact h1 z hz
theorem srtI_sorted : ∀ l, (srtI l).Pairwise (· ≤ ·)
  | [] => List.Pairwise.nil
  | x :: r => insI_sorted x (srtI_sorted r)
theorem sorted_one : ∀ {l m : List Int}, l.Perm m → l.Pairwise (· ≤ ·) → m.Pairwise (· ≤ ·) → l = m
  | [], m, p, _, _ => (List.nil_perm.mp p).symm
  | x :: l, [], p, _, _ => absurd p.length_eq (by simp)
  | x :: l, y :: m, p, h1, h2 => by
    obtain ⟨a1, a2⟩ := List.pairwise_cons.mp h1
    obtain ⟨b1, b2⟩ := List.pairwise_cons.mp h2
    have e : x = y := by
      have hx : x ∈ y :: m := p.mem_iff.mp List.mem_cons_self
      have hy : y ∈ x :: l := p.mem_iff.mpr List.mem_cons_self
      rcases List.mem_cons.mp hx with e | hx
      · exact e
      · rcases List.mem_cons.mp hy with e | hy
        · exact e.symm
        · exact Int.le_antisymm (a1 y hy) (b1 x hx)
    subst e
    rw [sorted_one ((List.perm_cons x).mp p) a2 b2]
def gSortedI : List D → Option D
  | [d] => (seqOf d).bind fun l => (ints? l).bind fun ns => some (.lst true ((srtI ns).map D.int))
  | _ => none
theorem Rs.ints : ∀ ns : List Int, Rs K Z H (ns.map D.int) (ns.map V.int) []
  | [] => .nil
  | n :: r => .cons0 (.int n) (Rs.ints r)
theorem cs_sortedI : ClS K (rSortedI K) gSortedI := fun Z H ds vs F1 d Q rs hg q => by
  unfold gSortedI at hg
  split at hg
  · obtain ⟨l, h1, hg⟩ := Option.bind_eq_some_iff.mp hg
    obtain ⟨ns, h2, hg⟩ := Option.bind_eq_some_iff.mp hg
    cases hg
    obtain ⟨v, rfl, r⟩ := rs.one_inv
    obtain ⟨a, ws, G, rfl, ha, r2, _⟩ := seqOf_at h1 r
    rw [ints?_of h2] at r2
    rw [r2.intsV] at ha
    refine ⟨a, ns, rfl, ha, fun ns' p hp hs hn => ?_⟩
    have e : ns' = srtI ns := sorted_one (hp.trans (srtI_perm ns).symm) hs (srtI_sorted ns)
    subst e
    exact new_list hn (Rs.ints _) q
  · cases hg

/-! ### is, in -/
def gIs (d e : D) : Option D := match d, e with
  | .bl a, .bl b => some (.bl (decide (a = b)))
  | _, _ => none
def gIsNot (d e : D) : Option D := match d, e with
  | .bl a, .bl b => some (.bl (!decide (a = b)))
  | _, _ => none
theorem os_isB : OpS K rIsB gIs := OpS.here fun Z H d1 d2 v1 v2 F1 F2 d Q r1 r2 hg q => by
  unfold gIs at hg
  split at hg
  · cases hg
    exact ⟨_, _, r1.bl_inv, r2.bl_inv, q _ (.bl _)⟩
  · cases hg
theorem os_notB : OpS K rNotB gIsNot := OpS.here fun Z H d1 d2 v1 v2 F1 F2 d Q r1 r2 hg q => by
  unfold gIsNot at hg
  split at hg
  · cases hg
    exact ⟨_, _, r1.bl_inv, r2.bl_inv, q _ (.bl _)⟩
  · cases hg
def isNon : D → Bool
  | .non => true
  | _ => false
def gIsN (d e : D) : Option D := match e with
  | .non => some (.bl (isNon d))
  | _ => none
def gNotN (d e : D) : Option D := match e with
  | .non => some (.bl (!isNon d))
  | _ => none
theorem R.isNon {d : D} {v : V} {F : List Addr} (r : R K Z H d v F) : decide (v = .non) = Vl.isNon d := by
  cases r <;> simp [Vl.isNon]
theorem os_isN : OpS K (fun x y H Q => y = .non ∧ Q (.bl (decide (x = .non))) H) gIsN := OpS.here fun Z H d1 d2 v1 v2 F1 F2 d Q r1 r2 hg q => by
  unfold gIsN at hg
  split at hg
  · cases hg
    exact ⟨r2.non_inv, by rw [r1.isNon]; exact q _ (.bl _)⟩
  · cases hg
theorem os_notN : OpS K (fun x y H Q => y = .non ∧ Q (.bl (!decide (x = .non))) H) gNotN := OpS.here fun Z H d1 d2 v1 v2 F1 F2 d Q r1 r2 hg q => by
  unfold gNotN at hg
  split at hg
  · cases hg
    exact ⟨r2.non_inv, by rw [r1.isNon]; exact q _ (.bl _)⟩
  · cases hg

/-! ### isinstance -/
def tagOf : D → String
  | .non => "NoneType"
  | .bl _ => "bool"
  | .int _ => "int"
  | .str _ => "str"
  | .tup _ => "tuple"
  | .lst _ _ => "list"
  | .dct _ _ _ => "dict"
  | .scr _ => "list"
  | .xt _ => "tuple"
def fIsi (T : String) (f : M D) : M D := fun ρ => (f ρ).bind fun p => (kitB (tagOf p.1) T).bind fun b => some (.bl b, p.2)
theorem sqt_ty {a : Addr} {vs : List V} (h : SqT K H a vs) : TyX K H (.ref a) (.type "tuple") := by
  rcases h with (h | ⟨o, h⟩) | ⟨o, its, n, h1, h2, _⟩
  · exact .base (.tup h)
  · exact .fTuple h
  · exact .kTuple h1 h2
theorem sqf_ty {a : Addr} {vs : List V} (h : SqF K H a vs) : TyX K H (.ref a) (.type "list") := by
  rcases h with ⟨o, h⟩ | ⟨o, its, n, h1, h2, _⟩
  · exact .base (.frz h)
  · exact .kList h1 h2
def notLk : D → Bool
  | .dct false _ _ => false
  | _ => true
theorem R.ty {d : D} {v : V} {F : List Addr} (r : R K Z H d v F) (hn : notLk d = true) : TyX K H v (.type (tagOf d)) := by
  cases r with
  | non => exact .base .non
  | bl b => exact .base (.bl b)
  | int i => exact .base (.int i)
  | str s => exact .base (.str s)
  | tup h _ => exact .base (.tup h)
  | xt h _ _ _ => exact sqt_ty (.inl (.inr ⟨_, h⟩))
  | own h _ => exact .base (.lst h)
  | fzn h _ _ => exact .base (.lst h)
  | knw h _ => exact sqf_ty h
  | dow h _ =>
    obtain ⟨o, h1, h2⟩ := h
    unfold DcH at h2
    split at h2
    · obtain ⟨ks, e, _⟩ := h2; subst e; exact .base (.dK h1)
    · obtain ⟨ks, e, _⟩ := h2; subst e; exact .base (.dT h1)
  | dfz _ _ _ => cases hn
  | dlk _ _ => cases hn
theorem pev_isi {T O : List Nat} {x : Bool} {e : Expr} {f : M D} {pos p pc : Pos} {cn : Str} (c : String) (hgc : Gl X cn) (hmc : X.mg cn = none) (hvc : bootBuiltins cn = some (.type c)) (hg : Gl X "isinstance") (hm : X.mg "isinstance" = none)
    (he : PEV X T O x e f) (hn : cn ≠ "__name__" := by decide) (hd : (cn == ("__debug__" : Str)) = false := by decide)
    (hs1 : starEach [e, .Name cn pc] X.env = (false, eval e X.env) :: starEach [.Name cn pc] X.env := by rfl) (hs2 : starEach [.Name cn pc] X.env = (false, eval (.Name cn pc) X.env) :: starEach [] X.env := by rfl) (hpl : (backTo pos (starEach [.Name cn pc] X.env)).any (·.1) = false := by rfl) :
    PEV X T [] true (.Call (.Name "isinstance" p) [e, .Name cn pc] [] pos) (fun ρ => (f ρ).bind fun p => if notLk p.1 = true then (kitB (tagOf p.1) c).bind fun b => some (.bl b, p.2) else none) := by
  refine PE.imp (pe_callB call_isi hg hm (by decide +kernel) (pa_cons he (pa_cons (pe_bltn (v := .ty c) hgc hmc hvc rfl hn hd) pa_nil hs2) hs1) (by decide) (by decide) hs1 hpl) fun σ H Q h => ?_
  obtain ⟨Z, ρ, Fs, d, ρ', rel, hf, q⟩ := h
  obtain ⟨⟨d1, ρ1⟩, h1, hf⟩ := Option.bind_eq_some_iff.mp hf
  split at hf
  · rename_i hnl
    obtain ⟨b, h2, hf⟩ := Option.bind_eq_some_iff.mp hf
    cases hf
    exact ⟨Z, ρ, Fs, d1, _, rel, h1, fun v H' Z' Fs' F rel' f' w c' => ⟨v, .ty c, _, _, b, rfl, .ty c, w.r.ty hnl, kit_ty h2, q _ H' Z' Fs' [] rel' f' ⟨.bl b, fun _ _ h => (by cases h), fun _ => ⟨List.nodup_nil, fun _ h => (by cases h)⟩⟩ Cf.nil⟩⟩
  · cases hf

/-! ### tuple(range(..)), list(range(..)) -/
def tVR (K : PySem.W.Frag) (T : List Nat) (f : M (Int × Int)) : L2.St → Hp → (Int → Int → Hp → Prop) → Prop := fun σ H Q => ∃ Z ρ Fs o ρ', Rel K Z ρ σ H Fs ∧ f ρ = some (o, ρ') ∧
  ∀ H' Z' Fs', Rel K Z' ρ' σ H' Fs' → Frm T Z ρ Fs H Z' ρ' Fs' H' → Q o.1 o.2 H'
abbrev PRV (X : Cx) (T : List Nat) (e : Expr) (f : M (Int × Int)) : Prop := PRg X e (tVR X.K T f)
theorem PRg.imp {e : Expr} {t t' : L2.St → Hp → (Int → Int → Hp → Prop) → Prop} (h : PRg X e t) (i : ∀ σ H Q, t' σ H Q → t σ H Q) : PRg X e t' := fun pins s σ H Q I q => h pins s σ H Q I (i σ H Q q)
def rRg1 (f : M D) : M (Int × Int) := fun ρ => (f ρ).bind fun p => match p.1 with
  | .int n => some ((0, n), p.2)
  | _ => none
def rRg2 (O1 T2 : List Nat) (f g : M D) : M (Int × Int) := fun ρ => (f ρ).bind fun p => (g p.2).bind fun q => match p.1, q.1 with
  | .int i, .int j => some ((i, j), q.2)
  | _, _ => none
section
variable {T T1 T2 O O1 O2 : List Nat} {x x1 x2 : Bool} {a b e : Expr} {f fa fb : M D} {fr : M (Int × Int)} {p pos : Pos}
theorem prv_1 (hg : Gl X "range") (hm : X.mg "range" = none) (ha : PEV X T O x a f) (na : starEach [a] X.env = (false, eval a X.env) :: starEach [] X.env := by rfl) : PRV X T (.Call (.Name "range" p) [a] [] pos) (rRg1 f) := by
  refine PRg.imp (prg_1 hg hm ha na) fun σ H Q h => ?_
  obtain ⟨Z, ρ, Fs, o, ρ', rel, hf, q⟩ := h
  unfold rRg1 at hf
  obtain ⟨⟨d1, ρ1⟩, h1, hf⟩ := Option.bind_eq_some_iff.mp hf
  split at hf
  · rename_i n e
    cases hf
    have e : d1 = .int n := e
    subst e
    exact ⟨Z, ρ, Fs, _, _, rel, h1, fun v H' Z' Fs' F rel' f' w c' => ⟨n, w.r.int_inv, q H' Z' Fs' rel' f'⟩⟩
  · cases hf
theorem prv_2 (hg : Gl X "range") (hm : X.mg "range" = none) (ha : PEV X T1 O1 x1 a fa) (hb : PEV X T2 O2 x2 b fb) (na : starEach [a, b] X.env = (false, eval a X.env) :: starEach [b] X.env := by rfl) (nb : starEach [b] X.env = (false, eval b X.env) :: starEach [] X.env := by rfl) :
    PRV X (T1 ++ T2) (.Call (.Name "range" p) [a, b] [] pos) (rRg2 O1 T2 fa fb) := by
  refine PRg.imp (prg_2 hg hm ha hb na nb (by rw [nb]; rfl)) fun σ H Q h => ?_
  obtain ⟨Z, ρ, Fs, o, ρ', rel, hf, q⟩ := h
  unfold rRg2 at hf
  obtain ⟨⟨d1, ρ1⟩, h1, hf⟩ := Option.bind_eq_some_iff.mp hf
  obtain ⟨⟨d2, ρ2⟩, h2, hf⟩ := Option.bind_eq_some_iff.mp hf
  split at hf
  · rename_i i j e1 e2
    cases hf
    have e1 : d1 = .int i := e1
    have e2 : d2 = .int j := e2
    subst e1 e2
    exact ⟨Z, ρ, Fs, _, _, rel, h1, fun v H' Z' Fs' F rel' f' w c' => ⟨Z', ρ1, Fs', _, _, rel', h2, fun v2 H2 Z2 Fs2 F2 rel2 f2 w2 c2 => ⟨i, j, w.r.int_inv, w2.r.int_inv, q H2 Z2 Fs2 rel2 (f'.trans f2)⟩⟩⟩
  · cases hf
def okRg (i j : Int) : Bool := okR i && okR j && decide ((j - i).toNat ≤ 100000)
theorem okRg_of {i j : Int} (h : okRg i j = true) : RgOk i j := by
  unfold okRg at h
  rw [Bool.and_eq_true, Bool.and_eq_true] at h
  obtain ⟨h1, h2⟩ := okR_of h.1.1
  obtain ⟨h3, h4⟩ := okR_of h.1.2
  have h5 := of_decide_eq_true h.2
  exact ⟨by omega, by omega, by omega, by omega, by omega⟩
theorem Rs.rg (i j : Int) : Rs K Z H (rgItems i (j - i).toNat) (rgV i j) [] := by
  unfold rgItems rgV
  generalize (j - i).toNat = n
  generalize List.range n = l
  induction l with
  | nil => exact .nil
  | cons k l ih => exact .cons0 (.int _) ih
def fTupRg (fr : M (Int × Int)) : M D := fun ρ => (fr ρ).bind fun p => if okRg p.1.1 p.1.2 = true then some (.tup (rgItems p.1.1 (p.1.2 - p.1.1).toNat), p.2) else none
def fLstRg (fr : M (Int × Int)) : M D := fun ρ => (fr ρ).bind fun p => if okRg p.1.1 p.1.2 = true then some (.lst true (rgItems p.1.1 (p.1.2 - p.1.1).toNat), p.2) else none
theorem pev_tupRg (hc : X.calm = true) (hg : Gl X "tuple") (hm : X.mg "tuple" = none) (he : PRV X T e fr) (na : starEach [e] X.env = (false, eval e X.env) :: starEach [] X.env := by rfl) : PEV X T [] true (.Call (.Name "tuple" p) [e] [] pos) (fTupRg fr) := by
  refine PE.imp (pe_tupRg hc hg hm he na) fun σ H Q h => ?_
  obtain ⟨Z, ρ, Fs, d, ρ', rel, hf, q⟩ := h
  unfold fTupRg at hf
  obtain ⟨⟨⟨i, j⟩, ρ1⟩, h1, hf⟩ := Option.bind_eq_some_iff.mp hf
  split at hf
  · rename_i ho
    cases hf
    refine ⟨Z, ρ, Fs, _, _, rel, h1, fun H' Z' Fs' rel' f' => ⟨okRg_of ho, fun p hp => ?_⟩⟩
    refine new_tup hp (Rs.rg (K := X.K) (Z := Z') i j) fun v H2 F k r nd nw => ?_
    have fz := f'.trans (Frm.pureT [] k)
    rw [List.append_nil] at fz
    exact q v H2 Z' Fs' F (rel'.keep0 k) fz (Val.new rel' r nd nw) (Cf.new f'.keep nw)
  · cases hf
theorem pev_lstRg (hc : X.calm = true) (hg : Gl X "list") (hm : X.mg "list" = none) (he : PRV X T e fr) (na : starEach [e] X.env = (false, eval e X.env) :: starEach [] X.env := by rfl) : PEV X T [] true (.Call (.Name "list" p) [e] [] pos) (fLstRg fr) := by
  refine PE.imp (pe_listRg hc hg hm he na) fun σ H Q h => ?_
  obtain ⟨Z, ρ, Fs, d, ρ', rel, hf, q⟩ := h
  unfold fLstRg at hf
  obtain ⟨⟨⟨i, j⟩, ρ1⟩, h1, hf⟩ := Option.bind_eq_some_iff.mp hf
  split at hf
  · rename_i ho
    cases hf
    refine ⟨Z, ρ, Fs, _, _, rel, h1, fun H' Z' Fs' rel' f' => ⟨okRg_of ho, fun p hp => ?_⟩⟩
    refine new_list hp (Rs.rg (K := X.K) (Z := Z') i j) fun v H2 F k r nd nw => ?_
    have fz := f'.trans (Frm.pureT [] k)
    rw [List.append_nil] at fz
    exact q v H2 Z' Fs' F (rel'.keep0 k) fz (Val.new rel' r nd nw) (Cf.new f'.keep nw)
  · cases hf
end

/-! ### methods that change the list or dict of a slot -/
def MtU (K : PySem.W.Frag) (r : V → List V → Hp → VK → Prop) (g : D → List D → Option (D × D)) : Prop := ∀ (Z : Addr → Prop) (H : Hp) (d0 : D) (v0 : V) (F0 : List Addr) (ds : List D) (vs : List V) (F : List Addr) (d d' : D) (Q : VK),
  R K Z H d0 v0 F0 → Rs K Z H ds vs F → (F0 ++ F).Nodup → (∀ a ∈ F0 ++ F, ¬ Z a) → (∀ a, Z a → H a ≠ none) → g d0 ds = some (d, d') →
  (∀ v H' F' F0', Keep (fun a => a ∈ F0) H H' → R K Z H' d v F' → R K Z H' d' v0 F0' → (F' ++ F0').Nodup → (∀ a ∈ F' ++ F0', a ∈ F0 ∨ a ∈ F ∨ H a = none) → Q v H') → r v0 vs H Q
def tyIs (T : String) : D → Bool
  | .lst _ _ => T == "list"
  | .dct true _ _ => T == "dict"
  | .str _ => T == "str"
  | _ => false
theorem R.tyV {T : String} {d : D} {v : V} {F : List Addr} (r : R K Z H d v F) (h : tyIs T d = true) : L2.tyV K T v H := by
  cases r with
  | non => cases h
  | bl b => cases h
  | int i => cases h
  | str s => exact eq_of_beq h
  | tup _ _ => cases h
  | xt _ _ _ _ => cases h
  | own e _ => exact .inl ⟨eq_of_beq h, _, SqL.of e⟩
  | fzn e _ _ => exact .inl ⟨eq_of_beq h, _, SqL.of e⟩
  | knw _ _ => cases h
  | dow e _ =>
    refine .inr (.inr (.inl ⟨eq_of_beq h, ?_⟩))
    obtain ⟨o, h1, h2⟩ := e
    unfold DcH at h2
    split at h2
    · obtain ⟨ks, e, _⟩ := h2; subst e; exact .inl ⟨_, h1⟩
    · obtain ⟨ks, e, _⟩ := h2; subst e; exact .inr ⟨_, h1⟩
  | dfz _ _ _ => cases h
  | dlk _ _ => cases h
def fMut (i : Nat) (ty : String) (g : D → List D → Option (D × D)) (fr : M (List D)) : M D := fun ρ => (Env.at ρ i).bind fun o => if tyIs ty o = true then (fr ρ).bind fun p => (Env.at p.2 i).bind fun o' => (g o' p.1).bind fun q => some (q.1, p.2.set i (some q.2)) else none
section
variable {T O : List Nat} {e : Expr} {es : List Expr} {fr : M (List D)} {pos : Pos}
theorem mut_end {Z Z1 : Addr → Prop} {ρ ρ1 : Env} {Fs Fs1 : Ft} {H H1 H' : Hp} {σ : L2.St} {i : Nat} {d' : D} {v0 : V} {F F' F0' : List Addr} (rel1 : Rel K Z1 ρ1 σ H1 Fs1) (f1 : Frm T Z ρ Fs H Z1 ρ1 Fs1 H1) (c1 : Cf T Fs H true F)
    (hF : ∀ j a, a ∈ F → a ∉ Fs1 j) (hnz : ∀ a ∈ F, ¬ Z1 a) (hv0 : σ[i]? = some (some v0)) (hil : i < ρ1.length) (k : Keep (fun a => a ∈ Fs1 i) H1 H') (r' : R K Z1 H' d' v0 F0') (nd : (F' ++ F0').Nodup) (cf : ∀ a ∈ F' ++ F0', a ∈ Fs1 i ∨ a ∈ F ∨ H1 a = none) :
    Rel K Z1 (ρ1.set i (some d')) σ H' (fun j => if j = i then F0' else Fs1 j) ∧ Frm (T ++ [i]) Z ρ Fs H Z1 (ρ1.set i (some d')) (fun j => if j = i then F0' else Fs1 j) H' ∧
    (∀ j a, a ∈ F' → a ∉ (fun j => if j = i then F0' else Fs1 j) j) ∧ (∀ a ∈ F' ++ F0', ¬ Z1 a) ∧ Cf (T ++ [i]) Fs H true F' := by
  obtain ⟨nd1, nd2, nd12⟩ := List.nodup_append.mp nd
  have far : ∀ {j a}, j ≠ i → a ∈ Fs1 j → a ∉ F' ++ F0' := fun {j a} hj ha hm => by
    rcases cf a hm with z | z | z
    · exact hj (rel1.dj j i a ha z)
    · exact hF j a z ha
    · exact rel1.ft j a ha z
  have nz : ∀ a ∈ F' ++ F0', ¬ Z1 a := fun a hm h => by
    rcases cf a hm with z | z | z
    · exact rel1.nz i a z h
    · exact hnz a z h
    · exact rel1.zt a h z
  have up : ∀ {a}, (∃ j ∈ T, a ∈ Fs j) → ∃ j ∈ T ++ [i], a ∈ Fs j := fun ⟨j, hj, h⟩ => ⟨j, List.mem_append_left _ hj, h⟩
  have own1 : ∀ {a}, a ∈ Fs1 i → (∃ j ∈ T ++ [i], a ∈ Fs j) ∨ H a = none := fun {a} h => by
    by_cases q : i ∈ T
    · exact (f1.c1 i q a h).imp up id
    · rw [(f1.sub i q).1] at h
      exact .inl ⟨i, List.mem_append_right _ List.mem_cons_self, h⟩
  have conf : ∀ a ∈ F' ++ F0', (∃ j ∈ T ++ [i], a ∈ Fs j) ∨ H a = none := fun a hm => by
    rcases cf a hm with z | z | z
    · exact own1 z
    · exact (c1 rfl a z).imp up id
    · exact .inr (f1.keep.back z)
  refine ⟨⟨fun j d e => ?_, fun j => ?_, fun j m a h1 h2 => ?_, fun j a h => ?_, fun a h => k.dom a (rel1.zt a h), fun j a h => ?_, by rw [List.length_set]; exact rel1.len⟩,
    ⟨fun j hj => ?_, f1.keep.trans k (fun a h => up h) fun a h => own1 h, fun j hj a ha => ?_, fun a h => (f1.c3 a h).imp id fun h => h.imp up id, f1.zz, by rw [List.length_set]; exact f1.len⟩, fun j a h1 h2 => ?_, nz, fun _ a ha => conf a (List.mem_append_left _ ha)⟩
  · by_cases q : j = i
    · subst q
      rw [List.getElem?_set_self hil] at e
      cases e
      simp only [if_pos rfl]
      exact ⟨v0, hv0, r'⟩
    · rw [List.getElem?_set_ne (Ne.symm q)] at e
      simp only [if_neg q]
      obtain ⟨v, h1, h2⟩ := rel1.at_ j d e
      exact ⟨v, h1, h2.keep k (fun _ h => h) (fun a z h => rel1.nz i a h z) fun a ha h => q (rel1.dj j i a ha h)⟩
  · by_cases q : j = i
    · simp only [if_pos q]; exact nd2
    · simp only [if_neg q]; exact rel1.nd j
  · by_cases q : j = i
    · by_cases p : m = i
      · rw [q, p]
      · simp only [if_pos q] at h1
        simp only [if_neg p] at h2
        exact absurd (List.mem_append_right _ h1) (far p h2)
    · by_cases p : m = i
      · simp only [if_neg q] at h1
        simp only [if_pos p] at h2
        exact absurd (List.mem_append_right _ h2) (far q h1)
      · simp only [if_neg q] at h1
        simp only [if_neg p] at h2
        exact rel1.dj j m a h1 h2
  · by_cases q : j = i
    · simp only [if_pos q] at h; exact nz a (List.mem_append_right _ h)
    · simp only [if_neg q] at h; exact rel1.nz j a h
  · by_cases q : j = i
    · simp only [if_pos q] at h; exact r'.tr a h
    · simp only [if_neg q] at h; exact k.dom a (rel1.ft j a h)
  · have q : j ≠ i := fun e => hj (by rw [e]; exact List.mem_append_right _ List.mem_cons_self)
    have h := f1.sub j fun z => hj (List.mem_append_left _ z)
    exact ⟨(if_neg q).trans h.1, (List.getElem?_set_ne (Ne.symm q)).trans h.2⟩
  · by_cases q : j = i
    · simp only [if_pos q] at ha
      exact conf a (List.mem_append_right _ ha)
    · simp only [if_neg q] at ha
      rcases List.mem_append.mp hj with hj | hj
      · exact (f1.c1 j hj a ha).imp up id
      · exact absurd (by simpa using hj) q
  · by_cases q : j = i
    · simp only [if_pos q] at h2
      exact nd12 a h1 a h2 rfl
    · simp only [if_neg q] at h2
      exact far q h2 (List.mem_append_left _ h1)
theorem tv_mut (i : Nat) {ty : String} {r : V → List V → Hp → VK → Prop} {g : D → List D → Option (D × D)} (hm : MtU X.K r g) {σ : L2.St} {H : Hp} {Q : VK} (h : tV X.K (T ++ [i]) [] true (fMut i ty g fr) σ H Q) : tBM X.K ty r (tVar i) (tVL X.K T [] true fr) σ H Q := by
  obtain ⟨Z, ρ, Fs, d, ρ', rel, hf, q⟩ := h
  unfold fMut at hf
  obtain ⟨o, h0, hf⟩ := Option.bind_eq_some_iff.mp hf
  split at hf
  · rename_i hty
    obtain ⟨⟨ds, ρ1⟩, h1, hf⟩ := Option.bind_eq_some_iff.mp hf
    obtain ⟨o', h2, hf⟩ := Option.bind_eq_some_iff.mp hf
    obtain ⟨⟨d1, d'⟩, h3, hf⟩ := Option.bind_eq_some_iff.mp hf
    cases hf
    obtain ⟨v0, hv0, r0⟩ := rel.at_ i o (Env.at_some h0)
    refine ⟨v0, hv0, r0.tyV hty, Z, ρ, Fs, ds, ρ1, rel, h1, fun vs H1 Z1 Fs1 F rel1 f1 w1 c1 => ?_⟩
    have hio := Env.at_some h2
    obtain ⟨v1, hv1, r1⟩ := rel1.at_ i o' hio
    rw [hv0] at hv1
    cases hv1
    obtain ⟨ndF, nzF⟩ := w1.exc rfl
    refine hm Z1 H1 o' v0 (Fs1 i) ds vs F d1 d' Q r1 w1.r (List.nodup_append.mpr ⟨rel1.nd i, ndF, fun a ha b hb e => ?_⟩) (fun a ha => ?_) rel1.zt h3 fun v H' F' F0' k rd rd' nd cf => ?_
    · subst e
      exact absurd (w1.ori i a hb ha) (by simp)
    · rcases List.mem_append.mp ha with ha | ha
      · exact rel1.nz i a ha
      · exact nzF a ha
    · obtain ⟨e1, e2, e3, e4, e5⟩ := mut_end rel1 f1 c1 (fun j a h1 h2 => absurd (w1.ori j a h1 h2) (by simp)) nzF hv0 (Env.lt hio) k rd' nd cf
      exact q v H' Z1 _ F' e1 e2 ⟨rd, fun j a h1 h2 => absurd h2 (e3 j a h1), fun _ => ⟨(List.nodup_append.mp nd).1, fun a ha => e4 a (List.mem_append_left _ ha)⟩⟩ e5
  · cases hf
end
end
end Vl

namespace Vl
open PySem PySem.Spec PyProof.Rows L2 AutoSeq1
theorem list_extend_tupW (l : Addr) (items : Array Value) (n : Nat) (b : Addr) (items2 : Array Value) (n2 : Nat) (dd : Option Addr) (sl : Array (Option Value)) (hs0 : ¬(!items.isEmpty && Builtin.List.listTooLong (items.size + items2.size)) = true) (hs1 : items.size ≤ sizeLine) (hs2 : items.size + items2.size ≤ sizeLine + 1) :
    Meets (Builtin.«list.extend» ⟨[.ref l, .ref b], []⟩) (fun _ R s => s.heap.get? l = some { cls := .type "list", dict := none, data := .seq items n, slots := #[] } ∧ s.heap.get? b = some { cls := .type "tuple", dict := dd, data := .seq items2 n2, slots := sl } ∧ R (.ok (.ret Value.none)) { s with heap := s.heap.update l (Obj.mapSeq fun x => x ++ items2), toks := s.toks }) :=
  .of_wp fun prog w A R s h => by
    obtain ⟨hp, g, d, tk, os⟩ := s; obtain ⟨hl, hb, h⟩ := h; have f1 := AutoSeq1.idx_int; have f2 := AutoSeq1.sub_tuple_tuple; have f3 := AutoSeq1.sub_list_list; have f4 := AutoSeq1.sub_tuple_list; have f5 := AutoSeq1.sub_list_tuple
    have hz' : (items ++ items2).size ≤ sizeLine + 1 := by rw [Array.size_append]; exact hs2
    wp_walk using (wpAny_updateSeq hl rfl (hz := hs1) (_hz' := hz')), wpAny_loadPart' hl, wpAny_loadPart' hb
    exact ⟨_, rfl, h⟩
/-- list.extend of a tuple -/
def rExtendT (K : PySem.W.Frag) : V → List V → Hp → VK → Prop := fun x vs H Q => ∃ l b xs zs, x = .ref l ∧ vs = [.ref b] ∧ H l = some (.lst xs) ∧ SqT K H b zs ∧ xs.length + zs.length ≤ sizeLine ∧ Q .non (upd H l (.lst (xs ++ zs)))
theorem mt_extendT {X : Cx} : MtM X "list.extend" (rExtendT X.K) := by
  intro pins s σ H x vs v us Q I rx rv h
  obtain ⟨l, b, xs, zs, rfl, rfl, hH, hB, hz, q⟩ := h
  cases rx
  obtain ⟨u, rfl, ru⟩ := rv.one
  cases ru
  obtain ⟨z, its, n, r, hl, e⟩ := I.lstM hH
  obtain ⟨its2, r2, ⟨⟨cls, dd, data, sl⟩, ho, hc, n2, hd⟩, hs⟩ := I.tuple hB
  simp only at hc hd
  subst hc hd
  have hl2 := r2.length
  have hsz : its.toArray.size + its2.toArray.size ≤ sizeLine := by rw [List.size_toArray, List.size_toArray]; omega
  have hlong : ¬ (!its.toArray.isEmpty && Builtin.List.listTooLong (its.toArray.size + its2.toArray.size)) = true := by
    rw [notLongL hsz, Bool.and_false]
    exact Bool.false_ne_true
  refine call_meets F.slot_list_extend ⟨_, e, rfl⟩ F.entry_list_extend (F.args_list_extend_2 _ _)
    (list_extend_tupW l its.toArray n b its2.toArray n2 dd sl hlong (by rw [List.size_toArray]; omega) (by omega)) ⟨e, ho, ?_⟩
  refine ⟨.non, _, I.lset (its' := its ++ its2) hH e (by simp) (r.append r2) ?_, rfl, q⟩
  rw [List.length_append]
  omega
end Vl

namespace Vl
open PySem PySem.Spec PyProof.Rows L2

section
variable {X : Cx} {K : PySem.W.Frag} {Z : Addr → Prop} {H : Hp}
def gAppend (d0 : D) (ds : List D) : Option (D × D) := match d0, ds with
  | .lst true l, [d] => if szOk l.length = true then some (.non, .lst true (l ++ [d])) else none
  | _, _ => none
theorem mu_append : MtU K rAppend gAppend := fun Z H d0 v0 F0 ds vs F d d' Q r0 rs nd nz zt hg q => by
  unfold gAppend at hg
  split at hg
  · split at hg
    · rename_i l e hz
      cases hg
      obtain ⟨a, ws, G, rfl, rfl, ha, ra⟩ := r0.own_inv
      obtain ⟨v, rfl, rv⟩ := rs.one_inv
      refine ⟨a, ws, v, rfl, rfl, ha, by rw [← ra.length]; exact sz_lt hz, ?_⟩
      have k : Keep (fun b => b = a) H (upd H a (.lst (ws ++ [v]))) := Keep.wr ha trivial
      obtain ⟨n1, n2⟩ := List.nodup_cons.mp (show (a :: (G ++ F)).Nodup from nd)
      have hz' : ∀ b, Z b → ¬ b = a := fun b z e => nz a List.mem_cons_self (by rw [← e]; exact z)
      refine q .non _ [] (a :: (G ++ F)) (k.mono fun b e => by rw [e]; exact List.mem_cons_self) .non (.own upd_same ?_) (by rw [List.nil_append]; exact nd) fun b hb => ?_
      · exact Rs.app (ra.keep k (fun _ h => h) hz' fun b hb e => n1 (by rw [← e]; exact List.mem_append_left _ hb)) (Rs.one (rv.keep k (fun _ h => h) hz' fun b hb e => n1 (by rw [← e]; exact List.mem_append_right _ hb)))
      · rcases List.mem_cons.mp hb with e | hb
        · exact .inl (by rw [e]; exact List.mem_cons_self)
        · rcases List.mem_append.mp hb with hb | hb
          · exact .inl (List.mem_cons_of_mem _ hb)
          · exact .inr (.inl hb)
    · cases hg
  · cases hg
/-- an own list is written: shared items alone -/
theorem upd_own {d : D} {a : Addr} {ws ws' : List V} {l' : List D} {v : V} {Q : VK} {F : List Addr} (ha : H a = some (.lst ws)) (hz : ∀ b, Z b → ¬ b = a) (nd : a ∉ F) (ndF : F.Nodup) (rv : R K Z H d v F) (rl : Rs K Z H l' ws' [])
    (q : ∀ v H' F' F0', Keep (fun b => b ∈ [a]) H H' → R K Z H' d v F' → R K Z H' (.lst true l') (.ref a) F0' → (F' ++ F0').Nodup → (∀ b ∈ F' ++ F0', b ∈ [a] ∨ b ∈ F ∨ H b = none) → Q v H') : Q v (upd H a (.lst ws')) := by
  have k : Keep (fun b => b = a) H (upd H a (.lst ws')) := Keep.wr ha trivial
  refine q v _ F [a] (k.mono fun b e => by rw [e]; exact List.mem_cons_self) (rv.keep k (fun _ h => h) hz fun b hb e => nd (by rw [← e]; exact hb)) (.own upd_same (rl.keep k (fun _ h => h) hz fun b hb => (by cases hb))) ?_ fun b hb => ?_
  · exact List.nodup_append.mpr ⟨ndF, by simp, fun x hx y hy e => nd (by have e2 : y = a := List.mem_singleton.mp hy; exact e2 ▸ e ▸ hx)⟩
  · rcases List.mem_append.mp hb with hb | hb
    · exact .inr (.inl hb)
    · exact .inl hb
theorem Rs.dropLast0 : ∀ {ds : List D} {vs : List V}, Rs K Z H ds vs [] → Rs K Z H ds.dropLast vs.dropLast [] := fun {ds vs} r => by
  rw [List.dropLast_eq_take, List.dropLast_eq_take, r.length]
  exact r.take0 _
theorem Rs.erase0 : ∀ {ds : List D} {vs : List V} (n : Nat), Rs K Z H ds vs [] → Rs K Z H (ds.eraseIdx n) (vs.eraseIdx n) []
  | [], [], n, r => r
  | [], v :: vs, n, r => nomatch r
  | d :: ds, [], n, r => nomatch r
  | d :: ds, v :: vs, n, r => by
    obtain ⟨v', ws, F1, F2, e1, e2, r1, r2⟩ := r.uncons
    cases e1
    obtain ⟨e3, e4⟩ := app_eq_nil e2.symm
    subst e3 e4
    cases n with
    | zero => exact r2
    | succ n => exact .cons0 r1 (Rs.erase0 n r2)
theorem Rs.set0 {e : D} {w : V} (re : R K Z H e w []) : ∀ {ds : List D} {vs : List V} (n : Nat), Rs K Z H ds vs [] → Rs K Z H (ds.set n e) (vs.set n w) []
  | [], [], n, r => r
  | [], v :: vs, n, r => nomatch r
  | d :: ds, [], n, r => nomatch r
  | d :: ds, v :: vs, n, r => by
    obtain ⟨v', ws, F1, F2, e1, e2, r1, r2⟩ := r.uncons
    cases e1
    obtain ⟨e3, e4⟩ := app_eq_nil e2.symm
    subst e3 e4
    cases n with
    | zero => exact .cons0 re r2
    | succ n => exact .cons0 r1 (Rs.set0 re n r2)
def gPop (d0 : D) (ds : List D) : Option (D × D) := match d0, ds with
  | .lst true l, [] => if D.noOwnL l = true then (l[l.length - 1]?).bind fun d => some (d, .lst true l.dropLast) else none
  | _, _ => none
theorem mu_pop : MtU K rPop gPop := fun Z H d0 v0 F0 ds vs F d d' Q r0 rs nd nz zt hg q => by
  unfold gPop at hg
  split at hg
  · split at hg
    · rename_i l hn
      obtain ⟨e, he, hg⟩ := Option.bind_eq_some_iff.mp hg
      cases hg
      obtain ⟨a, ws, G, rfl, rfl, ha, ra⟩ := r0.own_inv
      have e0 := ra.no hn
      subst e0
      cases rs
      obtain ⟨v, G2, h1, h2, h3⟩ := ra.get he
      have e2 : G2 = [] := by
        cases G2 with
        | nil => rfl
        | cons x r => exact absurd (h3 x List.mem_cons_self) (by simp)
      subst e2
      rw [ra.length] at h1
      exact ⟨a, ws, v, rfl, rfl, ha, h1, upd_own ha (fun b z e => nz a List.mem_cons_self (by rw [← e]; exact z)) (by simp) List.nodup_nil h2 ra.dropLast0 q⟩
    · cases hg
  · cases hg
def gPopAt (d0 : D) (ds : List D) : Option (D × D) := match d0, ds with
  | .lst true l, [.int i] => if (D.noOwnL l && szOk l.length) = true then (ixN l.length i).bind fun k => (l[k]?).bind fun d => some (d, .lst true (l.eraseIdx k)) else none
  | _, _ => none
theorem mu_popAt : MtU K rPopAt gPopAt := fun Z H d0 v0 F0 ds vs F d d' Q r0 rs nd nz zt hg q => by
  unfold gPopAt at hg
  split at hg
  · split at hg
    · rename_i l i hn
      obtain ⟨k, hk, hg⟩ := Option.bind_eq_some_iff.mp hg
      obtain ⟨e, he, hg⟩ := Option.bind_eq_some_iff.mp hg
      cases hg
      rw [Bool.and_eq_true] at hn
      obtain ⟨a, ws, G, rfl, rfl, ha, ra⟩ := r0.own_inv
      have e0 := ra.no hn.1
      subst e0
      have hvs := rs.ints1
      obtain ⟨v, G2, h1, h2, h3⟩ := ra.get he
      have e2 : G2 = [] := by
        cases G2 with
        | nil => rfl
        | cons x r => exact absurd (h3 x List.mem_cons_self) (by simp)
      subst e2
      obtain ⟨s1, s2, s3, s4⟩ := ixN_seq hk
      have hz : l.length ≤ 100000 := of_decide_eq_true hn.2
      refine ⟨a, ws, i, k, v, rfl, hvs, ha, by omega, by omega, by rw [← ra.length]; exact s1, h1, ?_⟩
      refine upd_own ha (fun b z e => nz a List.mem_cons_self (by rw [← e]; exact z)) (by simp) List.nodup_nil h2 (ra.erase0 k) fun v H' F' F0' k r1 r2 n1 n2 => q v H' F' F0' k r1 r2 n1 fun b hb => (n2 b hb).imp id fun h => h.elim (fun h => (by cases h)) .inr
    · cases hg
  · cases hg
def rExtB (K : PySem.W.Frag) : V → List V → Hp → VK → Prop := fun x vs H Q => rExtend x vs H Q ∨ rExtendT K x vs H Q
theorem mt_extB {X : Cx} : MtR X "list.extend" (rExtB X.K) := MtR.or mt_extend mt_extendT
def gExtL (l m : List D) : Option (D × D) := if (D.noOwnL l && D.noOwnL m && szOk (l.length + m.length)) = true then some (.non, .lst true (l ++ m)) else none
def gExtend (d0 : D) (ds : List D) : Option (D × D) := match d0, ds with
  | .lst true l, [.lst _ m] => gExtL l m
  | .lst true l, [.tup m] => gExtL l m
  | _, _ => none
theorem mu_extend : MtU K (rExtB K) gExtend := fun Z H d0 v0 F0 ds vs F d d' Q r0 rs nd nz zt hg q => by
  have q' := fun v H' F' F0' k r1 r2 n1 (n2 : ∀ b ∈ F' ++ F0', b ∈ F0 ∨ b ∈ [] ∨ H b = none) => q v H' F' F0' k r1 r2 n1 fun b hb => (n2 b hb).imp id fun h => h.elim (fun h => (by cases h)) .inr
  unfold gExtend at hg
  split at hg
  · rename_i l o m
    unfold gExtL at hg
    split at hg
    · rename_i h
      cases hg
      rw [Bool.and_eq_true, Bool.and_eq_true] at h
      obtain ⟨⟨h1, h2⟩, h3⟩ := h
      obtain ⟨a, ws, G, rfl, rfl, ha, ra⟩ := r0.own_inv
      have e0 := ra.no h1
      subst e0
      obtain ⟨v, rfl, rv⟩ := rs.one_inv
      obtain ⟨b, zs, G2, rfl, hb, rz⟩ := rv.lst_tr
      have rz := rz.nil_of h2
      refine .inl ⟨a, b, ws, zs, rfl, rfl, ha, hb, by rw [← ra.length, ← rz.length]; exact sz_of h3, upd_own ha (fun b z e => nz a List.mem_cons_self (by rw [← e]; exact z)) (by simp) List.nodup_nil .non ?_ q'⟩
      exact Rs.app (F := []) (G := []) ra rz
    · cases hg
  · rename_i l m
    unfold gExtL at hg
    split at hg
    · rename_i h
      cases hg
      rw [Bool.and_eq_true, Bool.and_eq_true] at h
      obtain ⟨⟨h1, h2⟩, h3⟩ := h
      obtain ⟨a, ws, G, rfl, rfl, ha, ra⟩ := r0.own_inv
      have e0 := ra.no h1
      subst e0
      obtain ⟨v, rfl, rv⟩ := rs.one_inv
      obtain ⟨b, zs, rfl, hb, rz⟩ := rv.tup_inv
      have rz := rz.nil_of h2
      refine .inr ⟨a, b, ws, zs, rfl, rfl, ha, hb, by rw [← ra.length, ← rz.length]; exact sz_of h3, upd_own ha (fun b z e => nz a List.mem_cons_self (by rw [← e]; exact z)) (by simp) List.nodup_nil .non ?_ q'⟩
      exact Rs.app (F := []) (G := []) ra rz
    · cases hg
  · cases hg
end
section
variable {X : Cx} {T : List Nat} {e : Expr} {es : List Expr} {fr : M (List D)} {y name : Str} {ty id : String} {apos cpos npos : Pos} {r : V → List V → Hp → VK → Prop} {g : D → List D → Option (D × D)}
theorem tv_mut0 (i : Nat) (hm : MtU X.K r g) {σ : L2.St} {H : Hp} {Q : VK} (h : tV X.K [i] [] true (fMut i ty g fNil) σ H Q) : tBM0 X.K ty r (tVar i) σ H Q := by
  obtain ⟨v, hv, h1, h2⟩ := tv_mut (T := []) i hm h
  refine ⟨v, hv, h1, ?_⟩
  obtain ⟨Z, ρ, Fs, ds, ρ', rel, hf, q⟩ := h2
  cases hf
  exact q [] H Z Fs [] rel (Frm.refl _) ⟨.nil, fun _ _ h => (by cases h), fun _ => ⟨List.nodup_nil, fun _ h => (by cases h)⟩⟩ Cf.nil
theorem pev_bm (i : Nat) (pa : PlainAttrs ty) (slot : Slot ty name id) (hty : typeOf (.builtin id) = pure (.type "method_descriptor")) (hm : MtR X id r) (hu : MtU X.K r g) (ha : PAV X T [] true (e :: es) fr)
    (hN : X.N[i]? = some y := by rfl) (hv : Vis X.env.scope y := by first | exact Or.inl rfl | exact Or.inr (Or.inl rfl) | exact Or.inr (Or.inr rfl)) (hd : (y == ("__debug__" : Str)) = false := by decide) (hcd : (y == ("__classdict__" : Str)) = false := by decide)
    (hbase : attributeBase (.Name y npos) name X.env (eval (.Name y npos) X.env) = eval (.Name y npos) X.env := by rfl)
    (hfew : ((backTo cpos (starEach (e :: es) X.env)).all (fun x => !x.1) && (backToKw cpos (keywordEach [] X.env)).all (fun x => x.1.isSome)
      && decide ((e :: es).length + ([] : List Keyword).length + (if ([] : List Keyword).isEmpty then 0 else 1) < 30)) = true := by rfl)
    (hline : (apos.endLine == cpos.line) = true := by rfl) (hs : starEach (e :: es) X.env = (false, eval e X.env) :: starEach es X.env := by rfl) (hplain : (backTo cpos (starEach es X.env)).any (·.1) = false := by rfl) :
    PEV X (T ++ [i]) [] true (.Call (.Attribute (.Name y npos) name apos) (e :: es) [] cpos) (fMut i ty g fr) :=
  PE.imp (pe_bm pa slot hty hm (pe_var hN hv hd hcd) ha hbase hfew hline hs hplain) fun _ _ _ h => tv_mut i hu h
theorem pev_bm0 (i : Nat) (pa : PlainAttrs ty) (slot : Slot ty name id) (hty : typeOf (.builtin id) = pure (.type "method_descriptor")) (hm : MtR X id r) (hu : MtU X.K r g)
    (hN : X.N[i]? = some y := by rfl) (hv : Vis X.env.scope y := by first | exact Or.inl rfl | exact Or.inr (Or.inl rfl) | exact Or.inr (Or.inr rfl)) (hd : (y == ("__debug__" : Str)) = false := by decide) (hcd : (y == ("__classdict__" : Str)) = false := by decide)
    (hbase : attributeBase (.Name y npos) name X.env (eval (.Name y npos) X.env) = eval (.Name y npos) X.env := by rfl) (hline : (apos.endLine == cpos.line) = true := by rfl) :
    PEV X [i] [] true (.Call (.Attribute (.Name y npos) name apos) [] [] cpos) (fMut i ty g fNil) :=
  PE.imp (pe_bm0 pa slot hty hm (pe_var hN hv hd hcd) hbase hline) fun _ _ _ h => tv_mut0 i hu h
end
end Vl

namespace Vl
open PySem PySem.Spec PyProof.Rows L2

/-! ### dicts as pairs: keys ints, texts (or tuples of these) -/
def kE : D → D → Bool
  | .int i, .int j => decide (i = j)
  | .str a, .str b => decide (a = b)
  | _, _ => false
def kEs : List D → List D → Bool
  | [], [] => true
  | a :: r, b :: s => kE a b && kEs r s
  | _, _ => false
def kEq (a b : D) : Bool := match a, b with
  | .tup l, .tup m => kEs l m
  | _, _ => kE a b
def keyOf : D → Option Key
  | .int i => some (.inl i)
  | .str s => some (.inr s)
  | _ => none
def lookD (kvs : List (D × D)) (k : D) : Option D := match kvs with
  | [] => none
  | p :: r => if kEq p.1 k = true then some p.2 else lookD r k
def hasD (kvs : List (D × D)) (k : D) : Bool := match kvs with
  | [] => false
  | p :: r => kEq p.1 k || hasD r k
def replD (kvs : List (D × D)) (k v : D) : List (D × D) := kvs.map fun p => if kEq p.1 k = true then (p.1, v) else p
def putD (kvs : List (D × D)) (k v : D) : List (D × D) := if hasD kvs k = true then replD kvs k v else kvs ++ [(k, v)]
def delD (kvs : List (D × D)) (k : D) : List (D × D) := kvs.filter fun p => !kEq p.1 k
theorem keyOf_some {d : D} {k : Key} (h : keyOf d = some k) : d = kD k := by
  unfold keyOf at h
  split at h <;> cases h <;> rfl
theorem kEq_kD (a b : Key) : kEq (kD a) (kD b) = decide (a = b) := by
  cases a <;> cases b <;> simp [kEq, kE, kD]

section
variable {K : PySem.W.Frag} {Z : Addr → Prop} {H : Hp} {κ : Type} [DecidableEq κ] {enc : κ → D}
/-- the same keys, related values -/
structure DRel (K : PySem.W.Frag) (Z : Addr → Prop) (H : Hp) (enc : κ → D) (kvs : List (D × D)) (ws : List (κ × V)) (F : List Addr) : Prop where
  ks : kvs.map (·.1) = ws.map (fun p => enc p.1)
  rs : Rs K Z H (kvs.map (·.2)) (ws.map (·.2)) F
theorem DRel.uncons {p : D × D} {kvs : List (D × D)} {ws : List (κ × V)} {F : List Addr} (r : DRel K Z H enc (p :: kvs) ws F) :
    ∃ q qs F1 F2, ws = q :: qs ∧ p.1 = enc q.1 ∧ F = F1 ++ F2 ∧ R K Z H p.2 q.2 F1 ∧ DRel K Z H enc kvs qs F2 := by
  obtain ⟨k, r⟩ := r
  cases ws with
  | nil => cases k
  | cons q qs =>
    rw [List.map_cons, List.map_cons] at k
    injection k with k1 k2
    obtain ⟨v, vs, F1, F2, e1, e2, r1, r2⟩ := Rs.uncons (show Rs K Z H (p.2 :: kvs.map (·.2)) (q.2 :: qs.map (·.2)) F from r)
    cases e1
    exact ⟨q, qs, F1, F2, rfl, k1, e2, r1, k2, r2⟩
theorem DRel.nil_ {ws : List (κ × V)} {F : List Addr} (r : DRel K Z H enc [] ws F) : ws = [] := by
  cases ws with
  | nil => rfl
  | cons q qs => cases r.ks
theorem DRel.cons0 {p : D × D} {q : κ × V} {kvs : List (D × D)} {ws : List (κ × V)} (h1 : p.1 = enc q.1) (h2 : R K Z H p.2 q.2 []) (r : DRel K Z H enc kvs ws []) : DRel K Z H enc (p :: kvs) (q :: ws) [] :=
  ⟨by rw [List.map_cons, List.map_cons, h1, r.ks], .cons0 h2 r.rs⟩
theorem DRel.look (he : ∀ a b, kEq (enc a) (enc b) = decide (a = b)) (k : κ) : ∀ {kvs : List (D × D)} {ws : List (κ × V)} {F : List Addr}, DRel K Z H enc kvs ws F →
    (∀ d, lookD kvs (enc k) = some d → ∃ v G, valV ws k = some v ∧ R K Z H d v G ∧ ∀ a ∈ G, a ∈ F) ∧ (lookD kvs (enc k) = none → valV ws k = none)
  | [], ws, F, r => by
    rw [r.nil_]
    exact ⟨fun d h => (by cases h), fun _ => rfl⟩
  | p :: kvs, ws, F, r => by
    obtain ⟨q, qs, F1, F2, rfl, k1, rfl, r1, r2⟩ := r.uncons
    obtain ⟨h1, h2⟩ := DRel.look he k r2
    have e : kEq p.1 (enc k) = decide (q.1 = k) := by rw [k1, he]
    by_cases c : q.1 = k
    · rw [valV_pos c]
      have e2 : lookD (p :: kvs) (enc k) = some p.2 := by unfold lookD; rw [e]; simp [c]
      rw [e2]
      exact ⟨fun d h => by cases h; exact ⟨_, F1, rfl, r1, fun a ha => List.mem_append_left _ ha⟩, fun h => (by cases h)⟩
    · rw [valV_neg c]
      have e2 : lookD (p :: kvs) (enc k) = lookD kvs (enc k) := by rw [lookD]; rw [e]; simp [c]
      rw [e2]
      exact ⟨fun d h => let ⟨v, G, z1, z2, z3⟩ := h1 d h; ⟨v, G, z1, z2, fun a ha => List.mem_append_right _ (z3 a ha)⟩, h2⟩
theorem hasD_look (k : D) : ∀ kvs : List (D × D), hasD kvs k = (lookD kvs k).isSome
  | [] => rfl
  | p :: r => by
    unfold hasD lookD
    by_cases c : kEq p.1 k = true
    · rw [c]; rfl
    · rw [if_neg c, hasD_look k r]
      rw [Bool.not_eq_true] at c
      rw [c]; rfl
theorem DRel.has (he : ∀ a b, kEq (enc a) (enc b) = decide (a = b)) {kvs : List (D × D)} {ws : List (κ × V)} {F : List Addr} (r : DRel K Z H enc kvs ws F) (k : κ) : (valV ws k).isSome = hasD kvs (enc k) := by
  rw [hasD_look]
  obtain ⟨h1, h2⟩ := r.look he k
  cases c : lookD kvs (enc k) with
  | none => rw [h2 c]; rfl
  | some d => obtain ⟨v, G, z, _⟩ := h1 d c; rw [z]; rfl
theorem DRel.repl (he : ∀ a b, kEq (enc a) (enc b) = decide (a = b)) {k : κ} {d : D} {v : V} (rv : R K Z H d v []) : ∀ {kvs : List (D × D)} {ws : List (κ × V)}, DRel K Z H enc kvs ws [] →
    DRel K Z H enc (replD kvs (enc k) d) (ws.map fun kv => if kv.1 = k then (kv.1, v) else kv) []
  | [], ws, r => by rw [r.nil_]; exact ⟨rfl, .nil⟩
  | p :: kvs, ws, r => by
    obtain ⟨q, qs, F1, F2, rfl, k1, e0, r1, r2⟩ := r.uncons
    obtain ⟨e1, e2⟩ := app_eq_nil e0.symm
    subst e1 e2
    have e : kEq p.1 (enc k) = decide (q.1 = k) := by rw [k1, he]
    have ih := DRel.repl he rv r2 (k := k)
    unfold replD at ih ⊢
    rw [List.map_cons, List.map_cons, e]
    by_cases c : q.1 = k
    · rw [if_pos (decide_eq_true c), if_pos c]; exact .cons0 k1 rv ih
    · rw [if_neg (by simpa using c), if_neg c]; exact .cons0 k1 r1 ih
theorem DRel.put (he : ∀ a b, kEq (enc a) (enc b) = decide (a = b)) {k : κ} {d : D} {v : V} (rv : R K Z H d v []) {kvs : List (D × D)} {ws : List (κ × V)} (r : DRel K Z H enc kvs ws []) :
    DRel K Z H enc (putD kvs (enc k) d) (putK ws k v) [] := by
  have e : (ws.any fun kv => decide (kv.1 = k)) = hasD kvs (enc k) := by rw [valV_any, r.has he k]
  unfold putD putK
  rw [e]
  by_cases c : hasD kvs (enc k) = true
  · rw [if_pos c, if_pos c]; exact r.repl he rv
  · rw [if_neg c, if_neg c]
    refine ⟨by rw [List.map_append, List.map_append, r.ks]; rfl, ?_⟩
    rw [List.map_append, List.map_append]
    exact Rs.app (F := []) (G := []) r.rs (Rs.one rv)
theorem DRel.del (he : ∀ a b, kEq (enc a) (enc b) = decide (a = b)) {k : κ} : ∀ {kvs : List (D × D)} {ws : List (κ × V)}, DRel K Z H enc kvs ws [] → DRel K Z H enc (delD kvs (enc k)) (dropK ws k) []
  | [], ws, r => by rw [r.nil_]; exact ⟨rfl, .nil⟩
  | p :: kvs, ws, r => by
    obtain ⟨q, qs, F1, F2, rfl, k1, e0, r1, r2⟩ := r.uncons
    obtain ⟨e1, e2⟩ := app_eq_nil e0.symm
    subst e1 e2
    have e : kEq p.1 (enc k) = decide (q.1 = k) := by rw [k1, he]
    have ih := DRel.del he r2 (k := k)
    unfold delD dropK at ih ⊢
    rw [List.filter_cons, List.filter_cons, e]
    by_cases c : q.1 = k
    · simp only [c, decide_true, Bool.not_true, ne_eq, not_true_eq_false, decide_false]; exact ih
    · simp only [c, decide_false, Bool.not_false, ne_eq, not_false_eq_true, decide_true]; exact .cons0 k1 r1 ih

/-- a dict that is read -/
theorem R.dct_rd {o : Bool} {kvs : List (D × D)} {v : V} {F : List Addr} (r : R K Z H (.dct o false kvs) v F) : ∃ a ws G, v = .ref a ∧ Rd H a (.dK ws) ∧ DRel K Z H kD kvs ws G ∧ ∀ b ∈ G, b ∈ F := by
  cases r with
  | dow h rs =>
    obtain ⟨ob, h1, ws, rfl, h2, rfl⟩ := h
    exact ⟨_, ws, _, rfl, .inl h1, ⟨h2, rs⟩, fun b hb => List.mem_cons_of_mem _ hb⟩
  | dfz h z rs =>
    obtain ⟨ob, h1, ws, rfl, h2, rfl⟩ := h
    exact ⟨_, ws, _, rfl, .inl h1, ⟨h2, rs⟩, fun b hb => hb⟩
  | dlk h rs =>
    obtain ⟨od, ob, h1, ws, rfl, h2, rfl⟩ := h
    exact ⟨_, ws, _, rfl, .inr ⟨od, h1⟩, ⟨h2, rs⟩, fun b hb => hb⟩
theorem R.dct_ow {kvs : List (D × D)} {v : V} {F : List Addr} (r : R K Z H (.dct true false kvs) v F) : ∃ a ws G, v = .ref a ∧ F = a :: G ∧ H a = some (.dK ws) ∧ DRel K Z H kD kvs ws G := by
  cases r with
  | dow h rs =>
    obtain ⟨ob, h1, ws, rfl, h2, rfl⟩ := h
    exact ⟨_, ws, _, rfl, rfl, h1, ⟨h2, rs⟩⟩
theorem DRel.at {a : Addr} {kvs : List (D × D)} {ws : List (Key × V)} {F : List Addr} (h : H a = some (.dK ws)) (r : DRel K Z H kD kvs ws F) : R K Z H (.dct true false kvs) (.ref a) (a :: F) :=
  .dow ⟨_, h, ws, rfl, r.ks, rfl⟩ r.rs
def keysOf : List D → Option (List Key)
  | [] => some []
  | d :: r => (keyOf d).bind fun k => (keysOf r).map (k :: ·)
def encT (ks : List Key) : D := .tup (ks.map kD)
def keyT : D → Option (List Key)
  | .tup l => keysOf l
  | _ => none
theorem keysOf_some : ∀ {l : List D} {ks : List Key}, keysOf l = some ks → l = ks.map kD
  | [], ks, h => by cases h; rfl
  | d :: r, ks, h => by
    unfold keysOf at h
    obtain ⟨k, h1, h⟩ := Option.bind_eq_some_iff.mp h
    obtain ⟨js, h2, rfl⟩ := Option.map_eq_some_iff.mp h
    rw [keyOf_some h1, keysOf_some h2]
    rfl
theorem keyT_some {d : D} {ks : List Key} (h : keyT d = some ks) : d = encT ks := by
  unfold keyT at h
  split at h
  · rw [keysOf_some h]; rfl
  · cases h
theorem kE_kD (a b : Key) : kE (kD a) (kD b) = decide (a = b) := by
  cases a <;> cases b <;> simp [kE, kD]
theorem kEs_kD : ∀ a b : List Key, kEs (a.map kD) (b.map kD) = decide (a = b)
  | [], [] => by simp [kEs]
  | [], _ :: _ => by simp [kEs]
  | _ :: _, [] => by simp [kEs]
  | a :: r, b :: s => by
    simp only [List.map_cons, kEs, kE_kD, kEs_kD r s]
    by_cases h1 : a = b <;> by_cases h2 : r = s <;> simp [h1, h2]
theorem kEq_encT (a b : List Key) : kEq (encT a) (encT b) = decide (a = b) := kEs_kD a b
theorem Rs.keys : ∀ {ks : List Key} {vs : List V} {F : List Addr}, Rs K Z H (ks.map kD) vs F → vs = ks.map kV
  | [], vs, F, r => by cases r; rfl
  | k :: ks, vs, F, r => by
    obtain ⟨v, ws, F1, F2, rfl, _, r1, rs⟩ := Rs.uncons (show Rs K Z H (kD k :: ks.map kD) vs F from r)
    rw [Rs.keys rs]
    cases k with
    | inl i => rw [show v = V.int i from R.int_inv r1]; rfl
    | inr s => rw [show v = V.str s from R.str_inv r1]; rfl
theorem R.keyT {d : D} {k : List Key} {v : V} {F : List Addr} (h : Vl.keyT d = some k) (r : R K Z H d v F) : ∃ b, v = .ref b ∧ H b = some (.tup (k.map kV)) ∧ d = encT k := by
  have e := keyT_some h
  subst e
  unfold encT at r
  cases r with
  | tup h1 rs => exact ⟨_, rfl, by rw [← Rs.keys rs]; exact h1, rfl⟩
theorem R.dctT_rd {o : Bool} {kvs : List (D × D)} {v : V} {F : List Addr} (r : R K Z H (.dct o true kvs) v F) : ∃ a ws G, v = .ref a ∧ Rd H a (.dT ws) ∧ DRel K Z H encT kvs ws G ∧ ∀ b ∈ G, b ∈ F := by
  cases r with
  | dow h rs =>
    obtain ⟨ob, h1, ws, rfl, h2, rfl⟩ := h
    exact ⟨_, ws, _, rfl, .inl h1, ⟨h2, rs⟩, fun b hb => List.mem_cons_of_mem _ hb⟩
  | dfz h z rs =>
    obtain ⟨ob, h1, ws, rfl, h2, rfl⟩ := h
    exact ⟨_, ws, _, rfl, .inl h1, ⟨h2, rs⟩, fun b hb => hb⟩
  | dlk h rs =>
    obtain ⟨od, ob, h1, ws, rfl, h2, rfl⟩ := h
    exact ⟨_, ws, _, rfl, .inr ⟨od, h1⟩, ⟨h2, rs⟩, fun b hb => hb⟩
theorem R.dctT_ow {kvs : List (D × D)} {v : V} {F : List Addr} (r : R K Z H (.dct true true kvs) v F) : ∃ a ws G, v = .ref a ∧ F = a :: G ∧ H a = some (.dT ws) ∧ DRel K Z H encT kvs ws G := by
  cases r with
  | dow h rs =>
    obtain ⟨ob, h1, ws, rfl, h2, rfl⟩ := h
    exact ⟨_, ws, _, rfl, rfl, h1, ⟨h2, rs⟩⟩
theorem DRel.atT {a : Addr} {kvs : List (D × D)} {ws : List (List Key × V)} {F : List Addr} (h : H a = some (.dT ws)) (r : DRel K Z H encT kvs ws F) : R K Z H (.dct true true kvs) (.ref a) (a :: F) :=
  .dow ⟨_, h, ws, rfl, r.ks, rfl⟩ r.rs
theorem R.key {d : D} {k : Key} {v : V} {F : List Addr} (h : keyOf d = some k) (r : R K Z H d v F) : v = kV k ∧ d = kD k := by
  have e := keyOf_some h
  subst e
  refine ⟨?_, rfl⟩
  cases k with
  | inl i => exact r.int_inv
  | inr s => exact r.str_inv

/-! ### reading: lists, tuples, texts, dicts -/
def gDk (d e : D) : Option D := match d with
  | .dct _ false kvs => (keyOf e).bind fun _ => lookD kvs e
  | .dct _ true kvs => (keyT e).bind fun _ => lookD kvs e
  | _ => none
def rIxA (K : PySem.W.Frag) : R2 := fun x y H Q => rIx K x y H Q ∨ ∃ a v, x = .ref a ∧ DGet H a y (some v) ∧ Q v H
theorem ix_all {X : Cx} (hu : X.A.units + 1 < cLine) : IxR X (rIxA X.K) := IxR.or ix_seq fun value slice pins s σ H x y v u Q I rx ry h hs => by
  obtain ⟨a, w, rfl, g, q⟩ := h
  obtain rfl : v = Value.ref a := rx
  exact tail_any (dict_typeIs I g) PySem.F.slot_dict_getitem.lookup (d_getItem hu I g ry fun w' s3 I3 rw' => ⟨w, H, I3, rw', q⟩) hs
def gIxA (d e : D) : Option D := match d with
  | .dct _ _ _ => gDk d e
  | _ => gIx d e
theorem gDk_of {d e x : D} {v u : V} {F G : List Addr} (h : gDk d e = some x) (r1 : R K Z H d v F) (r2 : R K Z H e u G) : ∃ a w G', v = .ref a ∧ DGet H a u (some w) ∧ R K Z H x w G' ∧ ∀ b ∈ G', b ∈ F := by
  unfold gDk at h
  split at h
  · rename_i o kvs
    obtain ⟨k, hk, h⟩ := Option.bind_eq_some_iff.mp h
    obtain ⟨rfl, rfl⟩ := r2.key hk
    obtain ⟨a, ws, G', rfl, hr, dr, hs⟩ := r1.dct_rd
    obtain ⟨w, G2, z1, z2, z3⟩ := (dr.look kEq_kD k).1 x h
    exact ⟨a, w, G2, rfl, .inl ⟨ws, k, hr, rfl, z1.symm⟩, z2, fun b hb => hs b (z3 b hb)⟩
  · rename_i o kvs
    obtain ⟨k, hk, h⟩ := Option.bind_eq_some_iff.mp h
    obtain ⟨c, rfl, hc, rfl⟩ := R.keyT hk r2
    obtain ⟨a, ws, G', rfl, hr, dr, hs⟩ := r1.dctT_rd
    obtain ⟨w, G2, z1, z2, z3⟩ := (dr.look kEq_encT k).1 x h
    exact ⟨a, w, G2, rfl, .inr ⟨ws, k, c, hr, rfl, hc, z1.symm⟩, z2, fun b hb => hs b (z3 b hb)⟩
  · cases h
theorem os_ixA : OpW K (rIxA K) gIxA := fun Z H d1 d2 v1 v2 F1 F2 d Q r1 r2 hg q => by
  unfold gIxA at hg
  split at hg
  · obtain ⟨a, w, G', rfl, g, r, hs⟩ := gDk_of hg r1 r2
    exact .inr ⟨a, w, rfl, g, q w H G' (Keep.refl _ _) r hs⟩
  · exact .inl (os_ix Z H d1 d2 v1 v2 F1 F2 d Q r1 r2 hg q)
theorem pev_ixA {X : Cx} {T1 T2 O1 O2 : List Nat} {x1 x2 : Bool} {a b : Expr} {fa fb : M D} {pos : Pos} (hu : X.A.units + 1 < cLine) (ha : PEV X T1 O1 x1 a fa) (hb : PEV X T2 O2 x2 b fb) (hp : PlainIx b := by intro _ _; rfl) : PEV X (T1 ++ T2) O1 false (.Subscript a b pos) (fOp O1 T2 gIxA fa fb) :=
  pev_ix (hr := ix_all hu) os_ixA ha hb hp
/-- k in d -/
def rInK : R2 := fun y x H Q => ∃ a o, x = .ref a ∧ DGet H a y o ∧ Q (.bl o.isSome) H
def rNiK : R2 := fun y x H Q => ∃ a o, x = .ref a ∧ DGet H a y o ∧ Q (.bl (!o.isSome)) H
theorem op_inK {X : Cx} (hu : X.A.units + 1 < cLine) : OpR X (compareOp .In) rInK := fun pins s σ H x y v u Q I rx ry h => by
  obtain ⟨a, o, rfl, g, q⟩ := h
  obtain rfl : u = Value.ref a := ry
  exact d_in hu I g rx fun s3 I3 => ⟨.bl o.isSome, H, I3, rfl, q⟩
theorem op_niK {X : Cx} (hu : X.A.units + 1 < cLine) : OpR X (compareOp .NotIn) rNiK := fun pins s σ H x y v u Q I rx ry h => by
  obtain ⟨a, o, rfl, g, q⟩ := h
  obtain rfl : u = Value.ref a := ry
  exact d_notIn hu I g rx fun s3 I3 => ⟨.bl (!o.isSome), H, I3, rfl, q⟩
def rInA (K : PySem.W.Frag) : R2 := fun x y H Q => (rIn K false x y H Q ∨ rInK x y H Q) ∨ rInD K x y H Q
def rNiA (K : PySem.W.Frag) : R2 := fun x y H Q => (rIn K true x y H Q ∨ rNiK x y H Q) ∨ rNotInD K x y H Q
theorem op_inA {X : Cx} (hu : X.A.units + 65 < cLine) : OpR X (compareOp .In) (rInA X.K) := (op_in_seq.or (op_inK (by omega))).or (op_inD hu)
theorem op_niA {X : Cx} (hu : X.A.units + 65 < cLine) : OpR X (compareOp .NotIn) (rNiA X.K) := (op_notIn_seq.or (op_niK (by omega))).or (op_notInD hu)
def flatD : D → Bool
  | .non => true
  | .bl _ => true
  | .int _ => true
  | .str _ => true
  | _ => false
theorem flat_eq {d e : D} {v w : V} {F G : List Addr} (r1 : R K Z H d v F) (r2 : R K Z H e w G) (h1 : flatD d = true) (h2 : flatD e = true) : flatV v = true ∧ flatV w = true ∧ eqV v w = pyEq d e := by
  cases r1 <;> first | (cases h1; done) | skip
  all_goals (cases r2 <;> first | (cases h2; done) | exact ⟨rfl, rfl, by simp [eqV, pyEq, D.toP, PyData.eqv]⟩)
theorem flat_any {e : D} {w : V} {G : List Addr} (r2 : R K Z H e w G) (h2 : flatD e = true) : ∀ {ds : List D} {vs : List V} {F : List Addr}, Rs K Z H ds vs F → ds.all flatD = true → vs.all flatV = true ∧ inV w vs = ds.any fun z => pyEq z e
  | [], _, _, r, _ => by cases r; exact ⟨rfl, rfl⟩
  | d :: ds, vs, F, r, h => by
    rw [List.all_cons, Bool.and_eq_true] at h
    obtain ⟨v, ws, F1, F2, rfl, e2, r1, rs⟩ := r.uncons
    obtain ⟨a1, a2, a3⟩ := flat_eq r1 r2 h.1 h2
    obtain ⟨b1, b2⟩ := flat_any r2 h2 rs h.2
    refine ⟨by rw [List.all_cons, a1, b1]; rfl, ?_⟩
    unfold inV at b2 ⊢
    rw [List.any_cons, List.any_cons, a3, b2]
theorem toPL_any (e : PyData) : ∀ l : List D, (D.toPL l).any (fun z => PyData.eqv z e) = l.any fun z => PyData.eqv z.toP e
  | [] => by simp [D.toPL]
  | d :: r => by simp only [D.toPL, List.any_cons, toPL_any e r]
def inD (l : List D) (d : D) : Bool := l.any fun z => pyEq z d
/-- d in e -/
def isIn (d e : D) : Option Bool := match e with
  | .dct _ false kvs => (keyOf d).bind fun _ => some (hasD kvs d)
  | .dct _ true kvs => (keyT d).bind fun _ => some (hasD kvs d)
  | .lst _ l => if (eqOk d && eqOk e) = true then some (inD l d) else none
  | .scr l => if (eqOk d && eqOk e) = true then some (inD l d) else none
  | .tup l => if (flatD d && l.all flatD) = true then some (inD l d) else none
  | _ => none
theorem isIn_of {d e : D} {b : Bool} {v w : V} {F G : List Addr} (h : isIn d e = some b) (r1 : R K Z H d v F) (r2 : R K Z H e w G) :
    (∃ p xs, w = .ref p ∧ (SqL K H p xs ∨ SqT K H p xs) ∧ flatV v = true ∧ xs.all flatV = true ∧ inV v xs = b) ∨ (∃ a o, w = .ref a ∧ DGet H a v o ∧ o.isSome = b) ∨
    ∃ x ds, Dp K H v x ∧ Dp K H w (.list ds) ∧ SeqAt.shaped x = true ∧ SeqAt.shaped (.list ds) = true ∧ (ds.any fun z => PyData.eqv z x) = b := by
  unfold isIn at h
  split at h
  · rename_i o kvs
    obtain ⟨k, hk, h⟩ := Option.bind_eq_some_iff.mp h
    cases h
    obtain ⟨rfl, rfl⟩ := r1.key hk
    obtain ⟨a, ws, G', rfl, hr, dr, hs⟩ := r2.dct_rd
    exact .inr (.inl ⟨a, valV ws k, rfl, .inl ⟨ws, k, hr, rfl, rfl⟩, dr.has kEq_kD k⟩)
  · rename_i o kvs
    obtain ⟨k, hk, h⟩ := Option.bind_eq_some_iff.mp h
    cases h
    obtain ⟨c, rfl, hc, rfl⟩ := R.keyT hk r1
    obtain ⟨a, ws, G', rfl, hr, dr, hs⟩ := r2.dctT_rd
    exact .inr (.inl ⟨a, valV ws k, rfl, .inr ⟨ws, k, c, hr, rfl, hc, rfl⟩, dr.has kEq_encT k⟩)
  · rename_i o l
    split at h
    · rename_i hz
      cases h
      rw [Bool.and_eq_true] at hz
      exact .inr (.inr ⟨d.toP, D.toPL l, r1.dp (eqOk.eok hz.1), by simpa [D.toP] using r2.dp (eqOk.eok hz.2), eqOk.shaped hz.1, by simpa [D.toP] using eqOk.shaped hz.2, toPL_any _ _⟩)
    · cases h
  · rename_i l
    split at h
    · rename_i hz
      cases h
      rw [Bool.and_eq_true] at hz
      exact .inr (.inr ⟨d.toP, D.toPL l, r1.dp (eqOk.eok hz.1), by simpa [D.toP] using r2.dp (eqOk.eok hz.2), eqOk.shaped hz.1, by simpa [D.toP] using eqOk.shaped hz.2, toPL_any _ _⟩)
    · cases h
  · rename_i l
    split at h
    · rename_i hz
      cases h
      rw [Bool.and_eq_true] at hz
      obtain ⟨a, vs, rfl, hs, rs⟩ := r2.tup_inv
      obtain ⟨b1, b2⟩ := flat_any r1 hz.1 rs hz.2
      have b3 : flatV v = true := by cases r1 <;> first | rfl | (cases hz.1; done)
      exact .inl ⟨a, vs, rfl, .inr hs, b3, b1, b2⟩
    · cases h
  · cases h
def gIn (d e : D) : Option D := (isIn d e).map fun b => .bl b
def gNi (d e : D) : Option D := (isIn d e).map fun b => .bl (!b)
theorem os_in : OpS K (rInA K) gIn := OpS.here fun Z H d1 d2 v1 v2 F1 F2 d Q r1 r2 hg q => by
  obtain ⟨b, h, rfl⟩ := Option.map_eq_some_iff.mp hg
  rcases isIn_of h r1 r2 with ⟨p, xs, e1, e2, e3, e4, e5⟩ | ⟨a, o, e1, e2, e3⟩ | ⟨x, ds, e1, e2, e3, e4, e5⟩
  · subst e5; exact .inl (.inl ⟨p, xs, e1, e2, e3, e4, q _ (.bl _)⟩)
  · subst e3; exact .inl (.inr ⟨a, o, e1, e2, q _ (.bl _)⟩)
  · subst e5; exact .inr ⟨x, ds, e1, e2, e3, e4, q _ (.bl _)⟩
theorem os_ni : OpS K (rNiA K) gNi := OpS.here fun Z H d1 d2 v1 v2 F1 F2 d Q r1 r2 hg q => by
  obtain ⟨b, h, rfl⟩ := Option.map_eq_some_iff.mp hg
  rcases isIn_of h r1 r2 with ⟨p, xs, e1, e2, e3, e4, e5⟩ | ⟨a, o, e1, e2, e3⟩ | ⟨x, ds, e1, e2, e3, e4, e5⟩
  · subst e5; exact .inl (.inl ⟨p, xs, e1, e2, e3, e4, q _ (.bl _)⟩)
  · subst e3; exact .inl (.inr ⟨a, o, e1, e2, q _ (.bl _)⟩)
  · subst e5; exact .inr ⟨x, ds, e1, e2, e3, e4, q _ (.bl _)⟩

/-! ### writing an item -/
def StU (K : PySem.W.Frag) (r : TSet) (g : D → D → D → Option D) : Prop := ∀ (Z : Addr → Prop) (H : Hp) (d0 di dv d' : D) (v0 vi vv : V) (F0 Fi : List Addr) (Q : Hp → Prop),
  R K Z H d0 v0 F0 → F0.Nodup → (∀ a ∈ F0, ¬ Z a) → R K Z H di vi Fi → R K Z H dv vv [] → g d0 di dv = some d' →
  (∀ H' F0', Keep (fun a => a ∈ F0) H H' → R K Z H' d' v0 F0' → F0'.Nodup → (∀ a ∈ F0', a ∈ F0) → Q H') → r v0 vi vv H Q
def rSetA : TSet := fun o i v H Q => rSetL o i v H Q ∨ ∃ a H4, o = .ref a ∧ DPut H a i v H4 ∧ Q H4
theorem set_all {X : Cx} (hu : X.A.units + 1 < cLine) : PSet X rSetA := fun pins s σ H o i v ov iv u Q I ro ri rv h => by
  rcases h with h | ⟨a, H4, rfl, g, q⟩
  · exact set_list pins s σ H o i v ov iv u Q I ro ri rv h
  · obtain rfl : ov = Value.ref a := ro
    exact d_setItem hu I g ri rv fun s4 I4 => ⟨H4, I4, q⟩
def gSet (d0 di dv : D) : Option D := match d0, di with
  | .lst true l, .int i => if D.noOwnL l = true then (ixN l.length i).map fun j => .lst true (l.set j dv) else none
  | .dct true false kvs, k => (keyOf k).bind fun _ => if (D.noOwnP kvs && szOk kvs.length) = true then some (.dct true false (putD kvs k dv)) else none
  | .dct true true kvs, k => (keyT k).bind fun _ => if (D.noOwnP kvs && szOk kvs.length) = true then some (.dct true true (putD kvs k dv)) else none
  | _, _ => none
theorem st_set : StU K rSetA gSet := fun Z H d0 di dv d' v0 vi vv F0 Fi Q r0 nd nz ri rv hg q => by
  unfold gSet at hg
  split at hg
  · rename_i l i
    split at hg
    · rename_i hn
      obtain ⟨j, hj, rfl⟩ := Option.map_eq_some_iff.mp hg
      obtain ⟨a, ws, G, rfl, rfl, ha, ra⟩ := r0.own_inv
      have e0 := ra.no hn
      subst e0
      refine .inl ⟨a, ws, i, j, rfl, ri.int_inv, ha, by rw [← ra.length]; exact hj, ?_⟩
      have k : Keep (fun b => b = a) H (upd H a (.lst (ws.set j vv))) := Keep.wr ha trivial
      have hz : ∀ b, Z b → ¬ b = a := fun b z e => nz a List.mem_cons_self (by rw [← e]; exact z)
      refine q _ [a] (k.mono fun b e => by rw [e]; exact List.mem_cons_self) (.own upd_same ((Rs.set0 rv j ra).keep k (fun _ h => h) hz fun b hb => (by cases hb))) (by simp) fun b hb => hb
    · cases hg
  · rename_i kvs
    obtain ⟨k, hk, hg⟩ := Option.bind_eq_some_iff.mp hg
    split at hg
    · rename_i hn
      cases hg
      rw [Bool.and_eq_true] at hn
      obtain ⟨rfl, rfl⟩ := ri.key hk
      obtain ⟨a, ws, G, rfl, rfl, ha, dr⟩ := r0.dct_ow
      have e0 : G = [] := dr.rs.no (by rw [← noOwnP_eq]; exact hn.1)
      subst e0
      have hl : kvs.length = ws.length := by have := dr.rs.length; simpa using this
      refine .inr ⟨a, _, rfl, DPut.k ha (by rw [← hl]; exact sz_lt hn.2), ?_⟩
      have kp : Keep (fun b => b = a) H (upd H a (.dK (putK ws k vv))) := Keep.wr ha trivial
      have hz : ∀ b, Z b → ¬ b = a := fun b z e => nz a List.mem_cons_self (by rw [← e]; exact z)
      have dr2 := dr.put kEq_kD rv (k := k)
      refine q _ [a] (kp.mono fun b e => by rw [e]; exact List.mem_cons_self) (DRel.at upd_same ⟨dr2.ks, dr2.rs.keep kp (fun _ h => h) hz fun b hb => (by cases hb)⟩) (by simp) fun b hb => hb
    · cases hg
  · rename_i kvs
    obtain ⟨k, hk, hg⟩ := Option.bind_eq_some_iff.mp hg
    split at hg
    · rename_i hn
      cases hg
      rw [Bool.and_eq_true] at hn
      obtain ⟨c, rfl, hc, rfl⟩ := R.keyT hk ri
      obtain ⟨a, ws, G, rfl, rfl, ha, dr⟩ := r0.dctT_ow
      have e0 : G = [] := dr.rs.no (by rw [← noOwnP_eq]; exact hn.1)
      subst e0
      have hl : kvs.length = ws.length := by have := dr.rs.length; simpa using this
      refine .inr ⟨a, _, rfl, DPut.t ha hc (by rw [← hl]; exact sz_lt hn.2), ?_⟩
      have kp : Keep (fun b => b = a) H (upd H a (.dT (putK ws k vv))) := Keep.wr ha trivial
      have hz : ∀ b, Z b → ¬ b = a := fun b z e => nz a List.mem_cons_self (by rw [← e]; exact z)
      have dr2 := dr.put kEq_encT rv (k := k)
      refine q _ [a] (kp.mono fun b e => by rw [e]; exact List.mem_cons_self) (DRel.atT upd_same ⟨dr2.ks, dr2.rs.keep kp (fun _ h => h) hz fun b hb => (by cases hb)⟩) (by simp) fun b hb => hb
    · cases hg
  · cases hg
/-- name[index] as a target -/
def gSt (i : Nat) (fi : M D) : D → Env → Option Env := fun v ρ => (Env.at ρ i).bind fun _ => (fi ρ).bind fun p => (Env.at p.2 i).bind fun o => (gSet o p.1 v).bind fun d' => some (p.2.set i (some d'))
end
section
variable {X : Cx} {T T1 T2 O O1 O2 : List Nat} {x x1 x2 : Bool} {e ix : Expr} {fi fe : M D} {pos npos : Pos} {y : Str}
theorem pgv_sub (i : Nat) (hu : X.A.units + 1 < cLine) (hi : PEV X T O x ix fi)
    (hN : X.N[i]? = some y := by rfl) (hv : Vis X.env.scope y := by first | exact Or.inl rfl | exact Or.inr (Or.inl rfl) | exact Or.inr (Or.inr rfl)) (hd : (y == ("__debug__" : Str)) = false := by decide) (hcd : (y == ("__classdict__" : Str)) = false := by decide)
    (ha : ∀ v, assign (.Subscript (.Name y npos) ix pos) X.env v = (do
      let ov ← holding [v] (eval (.Name y npos) X.env)
      let iv ← holding [v, ov] (eval ix X.env)
      standAt pos
      holding [v, ov, iv] (setItem ov iv v)
      release [v, ov, iv] []) := by intro _; rfl) : PGV X [] (T ++ [i]) (.Subscript (.Name y npos) ix pos) (gSt i fi) := by
  refine PG.imp (pg_sub (pe_var hN hv hd hcd) hi (set_all hu) ha) fun v σ H Q h => ?_
  obtain ⟨Z, ρ, Fs, d, ρ', rel, rd, hg, q⟩ := h
  unfold gSt at hg
  obtain ⟨o0, h0, hg⟩ := Option.bind_eq_some_iff.mp hg
  obtain ⟨⟨di, ρ1⟩, h1, hg⟩ := Option.bind_eq_some_iff.mp hg
  obtain ⟨o, h2, hg⟩ := Option.bind_eq_some_iff.mp hg
  obtain ⟨d', h3, hg⟩ := Option.bind_eq_some_iff.mp hg
  cases hg
  obtain ⟨v0, hv0, r0⟩ := rel.at_ i o0 (Env.at_some h0)
  refine ⟨v0, hv0, Z, ρ, Fs, di, ρ1, rel, h1, fun vi H1 Z1 Fs1 F rel1 f1 w1 c1 => ?_⟩
  have hio := Env.at_some h2
  obtain ⟨v1, hv1, r1⟩ := rel1.at_ i o hio
  rw [hv0] at hv1
  cases hv1
  have rd1 : R X.K Z1 H1 d v [] := rd.keep f1.keep f1.zz (fun a z ⟨j, hj, ha⟩ => rel.nz j a ha z) fun _ h => (by cases h)
  refine st_set Z1 H1 o di d d' v0 vi v (Fs1 i) F (fun H3 => Q σ H3) r1 (rel1.nd i) (fun a ha => rel1.nz i a ha) w1.r rd1 h3 fun H' F0' k rd' nd cf => ?_
  obtain ⟨e1, e2, e3, e4, e5⟩ := mut_end (F := []) (F' := []) rel1 f1 Cf.nil (fun j a h => (by cases h)) (fun a h => (by cases h)) hv0 (Env.lt hio) k rd' (by rw [List.nil_append]; exact nd) (fun a ha => .inl (cf a ha))
  exact q _ _ _ _ ⟨e1, e2, fun _ _ => rfl, rfl⟩
/-- name[index] op= value -/
def rGetA (K : PySem.W.Frag) : V → V → Hp → VK → Prop := fun o i H Q => (∃ p xs k v, o = .ref p ∧ i = .int k ∧ SqL K H p xs ∧ atI xs k = some v ∧ Q v H) ∨ ∃ a v, o = .ref a ∧ DGet H a i (some v) ∧ Q v H
theorem get_all (hu : X.A.units + 1 < cLine) : PGet X (rGetA X.K) := fun pins s σ H o i ov iv Q I ro ri h => by
  rcases h with ⟨p, xs, k, w, rfl, rfl, hq, he, q⟩ | ⟨a, w, rfl, g, q⟩
  · obtain rfl : ov = Value.ref p := ro
    obtain ⟨t, rfl⟩ := (show ∃ t, iv = Value.int k t from ri)
    obtain ⟨its, r, pl, hz⟩ := I.list hq
    obtain ⟨j, h1, h2, h3, h4, h5⟩ := atI_get he
    obtain ⟨u, eu, ru⟩ := r.get h2
    have hl := r.length
    have hn := line63
    by_cases h0 : 0 ≤ k
    · have hj : k.toNat = j := by
        rw [seqIndex_of h0 h5] at h1
        exact Option.some.inj h1
      exact wpAny_getItem_list pl.isList h0 (by omega) (by rw [hj]; simpa using eu) ⟨w, H, I, ru, q⟩
    · have hj : (k + (its.toArray.size : Int)).toNat = j := by
        rw [seqIndex_neg (by omega) h4] at h1
        rw [List.size_toArray, ← hl]
        exact Option.some.inj h1
      exact wpAny_getItem_list_neg pl.isList (by omega) (by rw [List.size_toArray] <;> omega) (by omega) (by rw [hj]; simpa using eu) ⟨w, H, I, ru, q⟩
  · obtain rfl : ov = Value.ref a := ro
    exact d_getItem hu I g ri fun w' s3 I3 rw' => ⟨w, H, I3, rw', q⟩
def gGet (d e : D) : Option D := match d with
  | .lst _ l => match e with
    | .int i => L2.atI l i
    | _ => none
  | _ => gDk d e
def sAugS (i : Nat) (g : D → D → Option D) (fi fe : M D) : MS := fun ρ => (Env.at ρ i).bind fun _ => (fi ρ).bind fun p => (Env.at p.2 i).bind fun o => if p.1.noOwn = true then (gGet o p.1).bind fun d => if d.noOwn = true then
  (fe p.2).bind fun q => (g d q.1).bind fun z => if z.noOwn = true then (Env.at q.2 i).bind fun o2 => (gSet o2 p.1 z).bind fun d' => some (.nx (q.2.set i (some d'))) else none else none else none
theorem psv_augS (i : Nat) {op : Operator} {ti : TIp} {g : D → D → Option D} (hu : X.A.units + 1 < cLine) (ho : PIp X op ti) (hs : OpS X.K ti g) (hi : PEV X T1 O1 x1 ix fi) (he : PEV X T2 O2 x2 e fe)
    (hN : X.N[i]? = some y := by rfl) (hv : Vis X.env.scope y := by first | exact Or.inl rfl | exact Or.inr (Or.inl rfl) | exact Or.inr (Or.inr rfl)) (hd : (y == ("__debug__" : Str)) = false := by decide) (hcd : (y == ("__classdict__" : Str)) = false := by decide)
    (ha : ∀ ov iv new, augStore ix ov iv new = (do holding [new, ov, iv] (setItem ov iv new); release [new, ov, iv] []; pure .next) := by intros; rfl) :
    PSV X [] ((T1 ++ T2) ++ [i]) (.AugAssign (.Subscript (.Name y npos) ix pos) op e p2) (sAugS i g fi fe) := by
  refine PS.imp (ps_augS (pe_var hN hv hd hcd) hi (get_all hu) he ho (set_all hu) ha) fun D σ H h => ?_
  obtain ⟨Z, ρ, Fs, r, rel, hf, k1, k2, k3, k4⟩ := h
  unfold sAugS at hf
  obtain ⟨o0, h0, hf⟩ := Option.bind_eq_some_iff.mp hf
  obtain ⟨⟨di, ρ1⟩, h1, hf⟩ := Option.bind_eq_some_iff.mp hf
  obtain ⟨o, h2, hf⟩ := Option.bind_eq_some_iff.mp hf
  split at hf
  · rename_i hni
    obtain ⟨d, h3, hf⟩ := Option.bind_eq_some_iff.mp hf
    split at hf
    · rename_i hnd
      obtain ⟨⟨de, ρ2⟩, h4, hf⟩ := Option.bind_eq_some_iff.mp hf
      obtain ⟨z, h5, hf⟩ := Option.bind_eq_some_iff.mp hf
      split at hf
      · rename_i hnz
        obtain ⟨o2, h6, hf⟩ := Option.bind_eq_some_iff.mp hf
        obtain ⟨d', h7, hf⟩ := Option.bind_eq_some_iff.mp hf
        cases hf
        obtain ⟨v0, hv0, r0⟩ := rel.at_ i o0 (Env.at_some h0)
        refine ⟨v0, hv0, Z, ρ, Fs, di, ρ1, rel, h1, fun vi H1 Z1 Fs1 F1 rel1 f1 w1 c1 => ?_⟩
        obtain ⟨v1, hv1, r1⟩ := rel1.at_ i o (Env.at_some h2)
        rw [hv0] at hv1
        cases hv1
        have go : ∀ (w : V) (G : List Addr), R X.K Z1 H1 d w G → tV X.K T2 O2 x2 fe σ H1 fun y H4 => ti w y H4 fun z' H5 => rSetA v0 vi z' H5 fun H6 => D.nx σ H6 := fun w G rw' => by
          have e0 := rw'.no hnd
          subst e0
          refine ⟨Z1, ρ1, Fs1, de, ρ2, rel1, h4, fun ve H2 Z2 Fs2 F2 rel2 f2 w2 c2 => ?_⟩
          have hM : ∀ a, Z1 a → ¬ ∃ j ∈ T2, a ∈ Fs1 j := fun a z ⟨j, hj, ha⟩ => rel1.nz j a ha z
          have wd := rw'.keep f2.keep f2.zz hM fun _ h => (by cases h)
          refine hs Z2 H2 d de w ve [] F2 z _ wd w2.r h5 fun vz H3 F3 kz rz ndz cz => ?_
          have e3 := rz.no hnz
          subst e3
          have rel3 := rel2.keep0 kz
          have f3 := (f1.trans f2).trans (Frm.pureT [] kz)
          rw [List.append_nil] at f3
          obtain ⟨v2, hv2, r2⟩ := rel3.at_ i o2 (Env.at_some h6)
          rw [hv0] at hv2
          cases hv2
          have e4 := w1.r.no hni
          have wi := w1.r
          rw [e4] at wi
          have wi2 := (wi.keep f2.keep f2.zz hM fun _ h => (by cases h)).keep0 kz
          refine st_set Z2 H3 o2 di z d' v0 vi vz (Fs2 i) [] _ r2 (rel3.nd i) (fun a ha => rel3.nz i a ha) wi2 rz h7 fun H' F0' k rd' nd cf => ?_
          obtain ⟨e1, e2, _, _, _⟩ := mut_end (F := []) (F' := []) rel3 f3 Cf.nil (fun j a h => (by cases h)) (fun a h => (by cases h)) hv0 (Env.lt (Env.at_some h6)) k rd' (by rw [List.nil_append]; exact nd) (fun a ha => .inl (cf a ha))
          exact k1 _ rfl _ _ _ _ ⟨e1, e2, fun _ _ => rfl, rfl⟩
        unfold gGet at h3
        split at h3
        · rename_i ow l
          split at h3
          · rename_i k hdi
            simp only at hdi
            subst hdi
            obtain ⟨a, vs, G0, rfl, ha', rs, hs'⟩ := r1.lst_at
            obtain ⟨w, G, z1, z2, z3⟩ := rs.atI h3
            exact .inl ⟨a, vs, k, w, rfl, w1.r.int_inv, ha', z1, go w G z2⟩
          · cases h3
        · obtain ⟨a, w, G', rfl, g', rr, hs'⟩ := gDk_of h3 r1 w1.r
          exact .inr ⟨a, w, rfl, g', go w G' rr⟩
      · cases hf
    · cases hf
  · cases hf
end
end Vl

namespace Vl
open PySem PySem.Spec PyProof.Rows L2

theorem runF_ok {np m n : Nat} {b : MS} : ∀ ds r, runF np m n b ds = some r → ds.length = np ∧ r.2.length = m := fun ds r h => by
  unfold runF at h
  split at h
  · rename_i hl
    refine ⟨hl, ?_⟩
    obtain ⟨q, h1, h⟩ := Option.bind_eq_some_iff.mp h
    cases q with
    | rt d ρ =>
      obtain ⟨es, h2, h⟩ := Option.bind_eq_some_iff.mp h
      cases h
      exact outs_len h2
    | nx ρ =>
      obtain ⟨es, h2, h⟩ := Option.bind_eq_some_iff.mp h
      cases h
      exact outs_len h2
    | bk ρ => cases h
    | ct ρ => cases h
  · cases h
section
variable {K : PySem.W.Frag}
theorem os_ipI {f : Int → Int → Int} : OpS K (ipI f) (gI fun i j => .int (f i j)) := OpS.here fun Z H d1 d2 v1 v2 F1 F2 d Q r1 r2 hg q => by
  unfold gI at hg
  split at hg
  · cases hg
    exact ⟨_, _, r1.int_inv, r2.int_inv, q _ (.int _)⟩
  · cases hg
end
def gAddI : D → D → Option D := gI fun i j => .int (i + j)
def fIsN (c : String) (f : M D) : M D := fun ρ => (f ρ).bind fun p => if notLk p.1 = true then (kitB (tagOf p.1) c).bind fun b => some (.bl b, p.2) else none
/-- {} with keys that are ints or texts -/
def fDnew : M D := fun ρ => some (.dct true false [], ρ)
def fDnewT : M D := fun ρ => some (.dct true true [], ρ)
theorem pev_dnew {X : Cx} {pos : Pos} : PEV X [] [] true (.Dict [] [] pos) fDnew := by
  refine PE.imp pe_dnewK fun σ H Q h => ?_
  obtain ⟨Z, ρ, Fs, d, ρ', rel, hf, q⟩ := h
  cases hf
  intro p hp
  have k : Keep M0 H (upd H p (.dK [])) := Keep.new hp
  have f := Frm.pureT (ρ := ρ) (Fs := Fs) (Z := Z) [] k
  exact q _ _ Z Fs [p] (rel.keep0 k) f (Val.new rel (.dow ⟨_, upd_same, [], rfl, rfl, rfl⟩ .nil) (by simp) fun a ha => by rw [List.mem_singleton.mp ha]; exact hp) (Cf.new (Keep.refl M0 _) fun a ha => by rw [List.mem_singleton.mp ha]; exact hp)
theorem pev_dnewT {X : Cx} {pos : Pos} : PEV X [] [] true (.Dict [] [] pos) fDnewT := by
  refine PE.imp pe_dnewT fun σ H Q h => ?_
  obtain ⟨Z, ρ, Fs, d, ρ', rel, hf, q⟩ := h
  cases hf
  intro p hp
  have k : Keep M0 H (upd H p (.dT [])) := Keep.new hp
  have f := Frm.pureT (ρ := ρ) (Fs := Fs) (Z := Z) [] k
  exact q _ _ Z Fs [p] (rel.keep0 k) f (Val.new rel (.dow ⟨_, upd_same, [], rfl, rfl, rfl⟩ .nil) (by simp) fun a ha => by rw [List.mem_singleton.mp ha]; exact hp) (Cf.new (Keep.refl M0 _) fun a ha => by rw [List.mem_singleton.mp ha]; exact hp)
/-- an exclusive value's owned things are frozen -/
def fFz (f : M D) : M D := fun ρ => (f ρ).bind fun p => some (p.1.frz, p.2)
theorem pev_frz {X : Cx} {T : List Nat} {e : Expr} {f : M D} (h : PEV X T [] true e f) : PEV X T [] true e (fFz f) := by
  refine PE.imp h fun σ H Q h => ?_
  obtain ⟨Z, ρ, Fs, d, ρ', rel, hf, q⟩ := h
  unfold fFz at hf
  obtain ⟨⟨d1, ρ1⟩, h1, hf⟩ := Option.bind_eq_some_iff.mp hf
  cases hf
  refine ⟨Z, ρ, Fs, d1, ρ1, rel, h1, fun v H' Z' Fs' F rel' f' w c => ?_⟩
  obtain ⟨nd, nz⟩ := w.exc rfl
  have far : ∀ i a, a ∈ F → a ∉ Fs' i := fun i a h1 h2 => absurd (w.ori i a h1 h2) (by simp)
  have rel2 : Rel X.K (fun a => Z' a ∨ a ∈ F) ρ1 σ H' Fs' := ⟨fun i d e => let ⟨v, h1, h2⟩ := rel'.at_ i d e; ⟨v, h1, h2.keep (Keep.refl M0 _) (fun _ h => .inl h) (fun _ _ h => h) fun _ _ h => h⟩, rel'.nd, rel'.dj,
    fun i a h z => z.elim (rel'.nz i a h) fun z => far i a z h, fun a h => h.elim (rel'.zt a) (w.r.tr a), rel'.ft, rel'.len⟩
  refine q v H' _ Fs' [] rel2 ⟨f'.sub, f'.keep, f'.c1, fun a h => h.elim (f'.c3 a) fun h => (c rfl a h).elim (fun z => .inr (.inl z)) fun z => .inr (.inr z), fun a h => .inl (f'.zz a h), f'.len⟩ ⟨w.r.freeze (fun _ h => .inl h) fun a h => .inr h, fun _ _ h => (by cases h), fun _ => ⟨List.nodup_nil, fun _ h => (by cases h)⟩⟩ Cf.nil
end Vl

namespace Vl
open PySem PySem.Spec PyProof.Rows L2

/-! ### a dict is locked while a walk over it runs -/
def IsDc : HO → Prop
  | .dK _ => True
  | .dT _ => True
  | _ => False
section
variable {K : PySem.W.Frag} {Z Z' : Addr → Prop} {H H' : Hp} {a : Addr} {u : HO} {od : Obj} {ρ ρ' : Env} {σ σ' : L2.St} {Fs Fs' : Ft} {W T : List Nat} {B : Addr → Prop}
theorem IsDc.mut (h : IsDc u) : Mut (some u) := by cases u <;> first | exact h.elim | trivial
theorem DcH.dc {t : Bool} {ks : List D} {vs : List V} {o : HO} (h : DcH t ks vs o) : IsDc o := by
  unfold DcH at h
  split at h
  · obtain ⟨ws, rfl, _⟩ := h; trivial
  · obtain ⟨ws, rfl, _⟩ := h; trivial
theorem sqt_lock {b : Addr} {xs : List V} (hu : IsDc u) (ha : H a = some u) (h : SqT K H b xs) : SqT K (upd H a (.frz od u)) b xs := by
  have ne : ∀ {o : HO}, H b = some o → (¬ IsDc o) → b ≠ a := fun h1 h2 e => by subst e; rw [ha] at h1; cases h1; exact h2 hu
  rcases h with (h | ⟨o, h⟩) | h
  · exact .inl (.inl (by rw [upd_ne (ne h id)]; exact h))
  · exact .inl (.inr ⟨o, by rw [upd_ne (ne h id)]; exact h⟩)
  · exact .inr h
theorem sqf_lock {b : Addr} {xs : List V} (hu : IsDc u) (ha : H a = some u) (h : SqF K H b xs) : SqF K (upd H a (.frz od u)) b xs := by
  rcases h with ⟨o, h⟩ | h
  · refine .inl ⟨o, ?_⟩
    rw [upd_ne fun e => by subst e; rw [ha] at h; cases h; exact hu]
    exact h
  · exact .inr h
mutual
theorem R.lock (hu : IsDc u) (ha : H a = some u) : ∀ {d : D} {v : V} {F : List Addr}, R K Z H d v F → a ∉ F → R K Z (upd H a (.frz od u)) d v F
  | _, _, _, .non, _ => .non
  | _, _, _, .bl b, _ => .bl b
  | _, _, _, .int i, _ => .int i
  | _, _, _, .str s, _ => .str s
  | _, _, _, .tup h r, n => .tup (by rw [upd_ne (fun e => by subst e; rw [ha] at h; cases h; exact hu)]; exact h) (Rs.lock hu ha r n)
  | _, _, _, .own h r, n => .own (by rw [upd_ne (fun e => n (by rw [e]; exact List.mem_cons_self))]; exact h) (Rs.lock hu ha r fun z => n (List.mem_cons_of_mem _ z))
  | _, _, _, .fzn h z r, n => .fzn (by rw [upd_ne (fun e => by subst e; rw [ha] at h; cases h; exact hu)]; exact h) z (Rs.lock hu ha r (by simp))
  | _, _, _, .knw h r, n => .knw (sqf_lock hu ha h) (Rs.lock hu ha r (by simp))
  | _, _, _, .dow h r, n => .dow (by
      obtain ⟨o, h1, h2⟩ := h
      exact ⟨o, by rw [upd_ne (fun e => n (by rw [e]; exact List.mem_cons_self))]; exact h1, h2⟩) (Rs.lock hu ha r fun z => n (List.mem_cons_of_mem _ z))
  | .dct _ t kvs, .ref b, _, .dfz h z r, n => by
    have r' := Rs.lock hu ha r (by simp)
    obtain ⟨o, h1, h2⟩ := h
    by_cases e : b = a
    · subst e
      rw [ha] at h1
      cases h1
      exact .dlk ⟨od, u, upd_same, h2⟩ r'
    · exact .dfz ⟨o, by rw [upd_ne e]; exact h1, h2⟩ z r'
  | _, _, _, .dlk h r, n => .dlk (by
      obtain ⟨o', o, h1, h2⟩ := h
      exact ⟨o', o, by rw [upd_ne (fun e => by subst e; rw [ha] at h1; cases h1; exact hu)]; exact h1, h2⟩) (Rs.lock hu ha r (by simp))
  | _, _, _, .xt h h1 h2 r, n => .xt (by rw [upd_ne (fun e => by subst e; rw [ha] at h; cases h; exact hu)]; exact h) h1 h2 (Rs.lock hu ha r n)
theorem Rs.lock (hu : IsDc u) (ha : H a = some u) : ∀ {ds : List D} {vs : List V} {F : List Addr}, Rs K Z H ds vs F → a ∉ F → Rs K Z (upd H a (.frz od u)) ds vs F
  | _, _, _, .nil, _ => .nil
  | _, _, _, .cons r rs, n => .cons (R.lock hu ha r fun z => n (List.mem_append_left _ z)) (Rs.lock hu ha rs fun z => n (List.mem_append_right _ z))
end
theorem sqt_unlk {b : Addr} {xs : List V} (hu : IsDc u) (ha : H a = some (.frz od u)) (h : SqT K H b xs) : SqT K (upd H a u) b xs := by
  rcases h with (h | ⟨o, h⟩) | h
  · exact .inl (.inl (by rw [upd_ne fun e => by subst e; rw [ha] at h; cases h]; exact h))
  · exact .inl (.inr ⟨o, by rw [upd_ne fun e => by subst e; rw [ha] at h; cases h; exact hu]; exact h⟩)
  · exact .inr h
theorem sqf_unlk {b : Addr} {xs : List V} (hu : IsDc u) (ha : H a = some (.frz od u)) (h : SqF K H b xs) : SqF K (upd H a u) b xs := by
  rcases h with ⟨o, h⟩ | h
  · exact .inl ⟨o, by rw [upd_ne fun e => by subst e; rw [ha] at h; cases h; exact hu]; exact h⟩
  · exact .inr h
mutual
theorem R.unlk (hu : IsDc u) (ha : H a = some (.frz od u)) (hz : Z a) : ∀ {d : D} {v : V} {F : List Addr}, R K Z H d v F → R K Z (upd H a u) d v F
  | _, _, _, .non => .non
  | _, _, _, .bl b => .bl b
  | _, _, _, .int i => .int i
  | _, _, _, .str s => .str s
  | _, _, _, .tup h r => .tup (by rw [upd_ne (fun e => by subst e; rw [ha] at h; cases h)]; exact h) (Rs.unlk hu ha hz r)
  | _, _, _, .own h r => .own (by rw [upd_ne (fun e => by subst e; rw [ha] at h; cases h)]; exact h) (Rs.unlk hu ha hz r)
  | _, _, _, .fzn h z r => .fzn (by rw [upd_ne (fun e => by subst e; rw [ha] at h; cases h)]; exact h) z (Rs.unlk hu ha hz r)
  | _, _, _, .knw h r => .knw (sqf_unlk hu ha h) (Rs.unlk hu ha hz r)
  | _, _, _, .dow h r => .dow (by
      obtain ⟨o, h1, h2⟩ := h
      exact ⟨o, by rw [upd_ne (fun e => by subst e; rw [ha] at h1; cases h1; exact h2.dc)]; exact h1, h2⟩) (Rs.unlk hu ha hz r)
  | _, _, _, .dfz h z r => .dfz (by
      obtain ⟨o, h1, h2⟩ := h
      exact ⟨o, by rw [upd_ne (fun e => by subst e; rw [ha] at h1; cases h1; exact h2.dc)]; exact h1, h2⟩) z (Rs.unlk hu ha hz r)
  | .dct _ t kvs, .ref b, _, .dlk h r => by
    have r' := Rs.unlk hu ha hz r
    obtain ⟨o', o, h1, h2⟩ := h
    by_cases e : b = a
    · subst e
      rw [ha] at h1
      cases h1
      exact .dfz ⟨u, upd_same, h2⟩ hz r'
    · exact .dlk ⟨o', o, by rw [upd_ne e]; exact h1, h2⟩ r'
  | _, _, _, .xt h h1 h2 r => .xt (by rw [upd_ne (fun e => by subst e; rw [ha] at h; cases h; exact hu)]; exact h) h1 h2 (Rs.unlk hu ha hz r)
theorem Rs.unlk (hu : IsDc u) (ha : H a = some (.frz od u)) (hz : Z a) : ∀ {ds : List D} {vs : List V} {F : List Addr}, Rs K Z H ds vs F → Rs K Z (upd H a u) ds vs F
  | _, _, _, .nil => .nil
  | _, _, _, .cons r rs => .cons (R.unlk hu ha hz r) (Rs.unlk hu ha hz rs)
end
theorem dom_upd {b : Addr} {o : HO} (h : H b ≠ none) : upd H a o b ≠ none := by
  by_cases e : b = a
  · subst e; rw [upd_same]; intro z; cases z
  · rw [upd_ne e]; exact h
theorem none_upd {b : Addr} {o : HO} (ha : H a ≠ none) (h : upd H a o b = none) : H b = none := by
  by_cases e : b = a
  · subst e; rw [upd_same] at h; cases h
  · rwa [upd_ne e] at h
theorem Rel.lock (hu : IsDc u) (ha : H a = some u) (rel : Rel K Z ρ σ H Fs) (hn : ∀ i, a ∉ Fs i) : Rel K Z ρ σ (upd H a (.frz od u)) Fs :=
  ⟨fun i d e => let ⟨v, h1, h2⟩ := rel.at_ i d e; ⟨v, h1, h2.lock hu ha (hn i)⟩, rel.nd, rel.dj, rel.nz, fun b h => dom_upd (rel.zt b h), fun i b h => dom_upd (rel.ft i b h), rel.len⟩
theorem Rel.unlk (hu : IsDc u) (ha : H a = some (.frz od u)) (hz : Z a) (rel : Rel K Z ρ σ H Fs) : Rel K Z ρ σ (upd H a u) Fs :=
  ⟨fun i d e => let ⟨v, h1, h2⟩ := rel.at_ i d e; ⟨v, h1, h2.unlk hu ha hz⟩, rel.nd, rel.dj, rel.nz, fun b h => dom_upd (rel.zt b h), fun i b h => dom_upd (rel.ft i b h), rel.len⟩
theorem Keep.unlk (hu : IsDc u) (ha : H a = some u) (k : Keep B (upd H a (.frz od u)) H') : Keep B H (upd H' a u) := by
  refine ⟨fun b o h n => ?_, fun b xs h => ?_, fun b o w h => ?_, fun b h => ?_⟩
  · by_cases e : b = a
    · subst e; rw [ha] at h; cases h; exact upd_same
    · rw [upd_ne e]; exact k.out b o (by rw [upd_ne e]; exact h) n
  · have e : b ≠ a := fun e => by subst e; rw [ha] at h; cases h; exact hu
    rw [upd_ne e]; exact k.tup b xs (by rw [upd_ne e]; exact h)
  · have e : b ≠ a := fun e => by subst e; rw [ha] at h; cases h; exact hu
    rw [upd_ne e]; exact k.frz b o w (by rw [upd_ne e]; exact h)
  · exact dom_upd (k.dom b (dom_upd h))
theorem Frm.unlk (hu : IsDc u) (ha : H a = some u) (f : Frm T Z ρ Fs (upd H a (.frz od u)) Z' ρ' Fs' H') : Frm T Z ρ Fs H Z' ρ' Fs' (upd H' a u) := by
  have nn : H a ≠ none := by rw [ha]; intro z; cases z
  exact ⟨f.sub, f.keep.unlk hu ha, fun j hj b hb => (f.c1 j hj b hb).imp id (none_upd nn), fun b h => (f.c3 b h).imp id fun h => h.imp id (none_upd nn), f.zz, f.len⟩
theorem Fin.unlk (hu : IsDc u) (ha : H a = some u) (hz : Z a) (f : Fin K W T Z ρ Fs σ (upd H a (.frz od u)) Z' ρ' Fs' σ' H') : H' a = some (.frz od u) ∧ Fin K W T Z ρ Fs σ H Z' ρ' Fs' σ' (upd H' a u) := by
  have e := f.frm.keep.frz a od u upd_same
  exact ⟨e, f.rel.unlk hu e (f.frm.zz a hz), f.frm.unlk hu ha, f.sg, f.sl⟩
theorem Val.unlk {O : List Nat} {x : Bool} {d : D} {v : V} {F : List Addr} (hu : IsDc u) (ha : H a = some (.frz od u)) (hz : Z a) (w : Val K Z H Fs O x d v F) : Val K Z (upd H a u) Fs O x d v F := ⟨w.r.unlk hu ha hz, w.ori, w.exc⟩
theorem Cf.unlk {x : Bool} {F : List Addr} (ha : H a = some u) (c : Cf T Fs (upd H a (.frz od u)) x F) : Cf T Fs H x F := fun h b hb => (c h b hb).imp id (none_upd (by rw [ha]; intro z; cases z))

/-- the slot's value is frozen -/
theorem ali_step {i : Nat} {d : D} (rel : Rel K Z ρ σ H Fs) (h : ρ[i]? = some (some d)) : Rel K (fun a => Z a ∨ a ∈ Fs i) (ρ.set i (some d.frz)) σ H (fun j => if j = i then [] else Fs j) ∧
    Frm [i] Z ρ Fs H (fun a => Z a ∨ a ∈ Fs i) (ρ.set i (some d.frz)) (fun j => if j = i then [] else Fs j) H := by
  obtain ⟨v, hs, r⟩ := rel.at_ i d h
  have hl := Env.lt h
  have r2 : R K (fun a => Z a ∨ a ∈ Fs i) H d.frz v [] := r.freeze (fun _ h => .inl h) fun a h => .inr h
  refine ⟨⟨fun j d e => ?_, (rel.drop i).nd, (rel.drop i).dj, fun j a h z => ?_, fun a h => ?_, (rel.drop i).ft, by rw [List.length_set]; exact rel.len⟩,
    ⟨fun j hj => ?_, Keep.refl _ _, fun j hj a h => ?_, fun a h => ?_, fun a h => .inl h, by rw [List.length_set]⟩⟩
  · by_cases p : j = i
    · subst p
      rw [List.getElem?_set_self hl] at e
      cases e
      simp only [if_pos rfl]
      exact ⟨v, hs, r2⟩
    · rw [List.getElem?_set_ne (Ne.symm p)] at e
      simp only [if_neg p]
      obtain ⟨v', h1, h2⟩ := rel.at_ j d e
      exact ⟨v', h1, h2.keep (Keep.refl M0 H) (fun _ h => .inl h) (fun _ _ h => h) fun _ _ h => h⟩
  · by_cases p : j = i
    · simp [p] at h
    · simp only [if_neg p] at h
      exact z.elim (rel.nz j a h) fun z => p (rel.dj j i a h z)
  · exact h.elim (rel.zt a) (rel.ft i a)
  · have p : j ≠ i := fun e => hj (by rw [e]; exact List.mem_cons_self)
    exact ⟨if_neg p, List.getElem?_set_ne (Ne.symm p)⟩
  · have e : j = i := by simpa using hj
    subst e
    simp at h
  · exact h.elim .inl fun h => .inr (.inl ⟨i, List.mem_cons_self, h⟩)

/-! ### walks over the dict of a slot -/
def iKy (i : Nat) : M (List D) := fun ρ => (Env.at ρ i).bind fun d => match d with
  | .dct false _ kvs => some (kvs.map (·.1), ρ)
  | _ => none
def Lkd (i : Nat) (σ : L2.St) (H : Hp) : Prop := ∃ d od u, σ[i]? = some (some (.ref d)) ∧ H d = some (.frz od u) ∧ IsDc u
def tVIk (K : PySem.W.Frag) (i : Nat) : TI := fun σ H Rk => Lkd i σ H ∧ tVI K [] [] (iKy i) σ H Rk
end
section
variable {X : Cx} {T O W Wg Tg Wb Tb Tt Te : List Nat} {x : Bool} {tg iter elt e : Expr} {ifs : List Expr} {bd : List Stmt} {pos npos : Pos} {y : Str} {g : D → Env → Option Env} {sb : MS} {ft : M Bool} {fe : M D}
theorem rs_keys {K : PySem.W.Frag} {Z : Addr → Prop} {H : Hp} (k : Key) : R K Z H (kD k) (kV k) [] := by
  cases k with
  | inl i => exact .int i
  | inr s => exact .str s
theorem rs_keyss {K : PySem.W.Frag} {Z : Addr → Prop} {H : Hp} : ∀ ks : List Key, Rs K Z H (ks.map kD) (ks.map kV) []
  | [] => .nil
  | k :: r => .cons0 (rs_keys k) (rs_keyss r)
theorem piv_key (i : Nat) (hN : X.N[i]? = some y := by rfl) (hv : Vis X.env.scope y := by first | exact Or.inl rfl | exact Or.inr (Or.inl rfl) | exact Or.inr (Or.inr rfl)) (hd : (y == ("__debug__" : Str)) = false := by decide) (hcd : (y == ("__classdict__" : Str)) = false := by decide) :
    PI X tg (.Name y npos) (tVIk X.K i) := by
  refine PI.imp (pi_keys (pe_var hN hv hd hcd)) fun σ H Rk h => ?_
  obtain ⟨⟨d, od, u, hs, hd, hu⟩, Z, ρ, Fs, items, ρ', rel, hf, q⟩ := h
  unfold iKy at hf
  obtain ⟨o, h0, hf⟩ := Option.bind_eq_some_iff.mp hf
  obtain ⟨v, hv, r⟩ := rel.at_ i o (Env.at_some h0)
  rw [hs] at hv
  cases hv
  generalize Fs i = F0 at r
  split at hf
  · rename_i t kvs
    cases hf
    refine ⟨.ref d, hs, d, od, rfl, ?_⟩
    cases r with
    | dfz h1 _ _ =>
      obtain ⟨o, h1, h2⟩ := h1
      rw [hd] at h1
      cases h1
      exact h2.dc.elim
    | dlk h1 _ =>
      obtain ⟨o', o, h1, h2⟩ := h1
      rw [hd] at h1
      cases h1
      cases t with
      | false =>
        obtain ⟨ws, rfl, hk, _⟩ := h2
        refine .inl ⟨ws, hd, ?_⟩
        have wk := walk_keys (d := d) (o := od) (kvs := ws)
        rw [show ws.length = (kvs.map (·.1)).length by rw [hk, List.length_map]] at wk
        refine q _ H Z Fs [] _ _ rel (Frm.refl _) wk (fun _ _ h => (by cases h)) fun M Z2 H2 k hA hZ zz => ⟨k.frz _ _ _ hd, fun j x h d' hy hi => ?_⟩
        obtain ⟨rfl, kk, v, h3, rfl⟩ := hy
        rw [hk, List.getElem?_map, h3] at hi
        cases hi
        exact ⟨Keep.refl _ _, rs_keys kk⟩
      | true =>
        obtain ⟨ws, rfl, hk, _⟩ := h2
        refine .inr ⟨ws, hd, ?_⟩
        have wk := walk_keysT (d := d) (o := od) (kvs := ws)
        rw [show ws.length = (kvs.map (·.1)).length by rw [hk, List.length_map]] at wk
        refine q _ H Z Fs [] _ _ rel (Frm.refl _) wk (fun _ _ h => (by cases h)) fun M Z2 H2 k hA hZ zz => ⟨k.frz _ _ _ hd, fun j x h d' hy hi => ?_⟩
        obtain ⟨rfl, kk, v, b, h3, rfl, h4⟩ := hy
        rw [hk, List.getElem?_map, h3] at hi
        cases hi
        exact ⟨Keep.refl _ _, .tup h4 (rs_keyss kk)⟩
  · cases hf
/-- what the slot's dict must be -/
def fzSlot (i : Nat) (ρ : Env) : Option Env := (Env.at ρ i).bind fun d => match d with
  | .dct _ _ _ => some (ρ.set i (some d.frz))
  | _ => none
/-- frozen first; then it is locked here, or it was locked before -/
theorem lock_cases {K : PySem.W.Frag} {Z : Addr → Prop} {ρ ρ1 : Env} {σ : L2.St} {H : Hp} {Fs : Ft} {i : Nat} (rel : Rel K Z ρ σ H Fs) (hf : fzSlot i ρ = some ρ1) :
    ∃ Z1 Fs1, Rel K Z1 ρ1 σ H Fs1 ∧ Frm [i] Z ρ Fs H Z1 ρ1 Fs1 H ∧ (Lkd i σ H ∨ ∃ a u, IsDc u ∧ H a = some u ∧ Z1 a ∧ (∀ j, a ∉ Fs1 j) ∧ ∀ od, Rel K Z1 ρ1 σ (upd H a (.frz od u)) Fs1 ∧ Lkd i σ (upd H a (.frz od u))) := by
  unfold fzSlot at hf
  obtain ⟨d, h0, hf⟩ := Option.bind_eq_some_iff.mp hf
  have hi := Env.at_some h0
  split at hf
  · rename_i o t kvs
    cases hf
    obtain ⟨rel1, f1⟩ := ali_step rel hi
    refine ⟨_, _, rel1, f1, ?_⟩
    have hi1 : (ρ.set i (some (D.frz (.dct o t kvs))))[i]? = some (some (.dct false t (D.frzP kvs))) := by rw [List.getElem?_set_self (Env.lt hi)]; rfl
    obtain ⟨v, hs, r⟩ := rel1.at_ i _ hi1
    have e0 : (if i = i then ([] : List Addr) else Fs i) = [] := if_pos rfl
    rw [e0] at r
    cases r with
    | @dfz a _ _ _ h1 hz h3 =>
      obtain ⟨u, h1, h2⟩ := h1
      have hn := fun j (z : a ∈ (fun j => if j = i then [] else Fs j) j) => rel1.nz j a z hz
      exact .inr ⟨a, u, h2.dc, h1, hz, hn, fun od => ⟨rel1.lock h2.dc h1 hn, a, od, u, hs, upd_same, h2.dc⟩⟩
    | @dlk a _ _ _ h1 h3 =>
      obtain ⟨od, u, h1, h2⟩ := h1
      exact .inl ⟨a, od, u, hs, h1, h2.dc⟩
  · cases hf
theorem PS.orLock {st : Stmt} {t : TS} (h : PS X st t) : PS X st (fun D σ H => t D σ H ∨ tLock t D σ H) :=
  ⟨fun pins s σ H D I q => q.elim (h.run pins s σ H D I) ((ps_lock h).run pins s σ H D I)⟩
theorem PE.orLock {e : Expr} {t : TE} (h : PE X e t) : PE X e (fun σ H Q => t σ H Q ∨ tLockE t σ H Q) :=
  ⟨fun pins s σ H Q I q => q.elim (h.run pins s σ H Q I) ((pe_lock h).run pins s σ H Q I)⟩
/-- a statement that walks over the slot's dict, which is frozen from here on -/
def sDk (i : Nat) (f : MS) : MS := fun ρ => (fzSlot i ρ).bind f
theorem tvs_lock {K : PySem.W.Frag} {t : TS} (i : Nat) {f : MS} (hi : ∀ D σ H, Lkd i σ H → tVS K W T f D σ H → t D σ H) {D : Ends} {σ : L2.St} {H : Hp} (h : tVS K W (i :: T) (sDk i f) D σ H) : t D σ H ∨ tLock t D σ H := by
  obtain ⟨Z, ρ, Fs, r, rel, hf, h1, h2, h3, h4⟩ := h
  unfold sDk at hf
  obtain ⟨ρ1, h0, hf⟩ := Option.bind_eq_some_iff.mp hf
  obtain ⟨Z1, Fs1, rel1, f1, lk⟩ := lock_cases rel h0
  have fn0 : Fin K [] [i] Z ρ Fs σ H Z1 ρ1 Fs1 σ H := Fin.of rel1 f1
  rcases lk with lk | ⟨a, u, hu, ha, hz, hn, lk⟩
  · exact .inl (hi D σ H lk ⟨Z1, ρ1, Fs1, r, rel1, hf, fun ρ2 e σ2 H2 Z2 Fs2 fn => h1 _ e _ _ _ _ (fn0.trans fn), fun ρ2 e σ2 H2 Z2 Fs2 fn => h2 _ e _ _ _ _ (fn0.trans fn), fun ρ2 e σ2 H2 Z2 Fs2 fn => h3 _ e _ _ _ _ (fn0.trans fn),
      fun d ρ2 e σ2 v H2 Z2 Fs2 F fn w c => h4 _ _ e _ _ _ _ _ _ (fn0.trans fn) w (Cf.late f1 c)⟩)
  · refine .inr ⟨a, u, ha, hu.mut, fun od => hi _ σ _ (lk od).2 ⟨Z1, ρ1, Fs1, r, (lk od).1, hf, fun ρ2 e σ2 H2 Z2 Fs2 fn => ?_, fun ρ2 e σ2 H2 Z2 Fs2 fn => ?_, fun ρ2 e σ2 H2 Z2 Fs2 fn => ?_, fun d ρ2 e σ2 v H2 Z2 Fs2 F fn w c => ?_⟩⟩
    · obtain ⟨e1, e2⟩ := fn.unlk hu ha hz
      exact ⟨e1, h1 _ e _ _ _ _ (fn0.trans e2)⟩
    · obtain ⟨e1, e2⟩ := fn.unlk hu ha hz
      exact ⟨e1, h2 _ e _ _ _ _ (fn0.trans e2)⟩
    · obtain ⟨e1, e2⟩ := fn.unlk hu ha hz
      exact ⟨e1, h3 _ e _ _ _ _ (fn0.trans e2)⟩
    · obtain ⟨e1, e2⟩ := fn.unlk hu ha hz
      exact ⟨e1, h4 _ _ e _ _ _ _ _ _ (fn0.trans e2) (w.unlk hu e1 (fn.frm.zz a hz)) (Cf.late f1 (c.unlk ha))⟩
theorem psv_forD (i : Nat) (hp : PassesOwn (model X.prog X.w) X.A X.env X.xe) (hc : X.calm = true) (hi : PI X tg iter (tVIk X.K i)) (hg : PGV X Wg Tg tg g) (hb : PSsV X Wb Tb bd sb)
    (hs : ∀ x, foldedSetIterable iter X.env x = pure x := by intro _; rfl) : PSV X (Wg ++ Wb) (i :: (Tg ++ Tb)) (.For tg iter bd [] pos) (sDk i (sFor (iKy i) g sb)) :=
  PS.imp (PS.orLock (ps_for hp hc hi hg hb hs)) fun D σ H h => tvs_lock i (T := [] ++ (Tg ++ Tb)) (t := tFor (tVIk X.K i) (tVG X.K Wg Tg g) (tVS X.K Wb Tb sb)) (fun D σ H lk q => ⟨lk, tv_for (T := []) (O := []) rfl q⟩) h
/-- a value that walks over the slot's dict -/
def fDk (i : Nat) (f : M D) : M D := fun ρ => (fzSlot i ρ).bind f
theorem tve_lock {K : PySem.W.Frag} {t : TE} (i : Nat) {f : M D} (hi : ∀ σ H Q, Lkd i σ H → tV K T [] true f σ H Q → t σ H Q) {σ : L2.St} {H : Hp} {Q : VK} (h : tV K (i :: T) [] true (fDk i f) σ H Q) : t σ H Q ∨ tLockE t σ H Q := by
  obtain ⟨Z, ρ, Fs, d, ρ', rel, hf, q⟩ := h
  unfold fDk at hf
  obtain ⟨ρ1, h0, hf⟩ := Option.bind_eq_some_iff.mp hf
  obtain ⟨Z1, Fs1, rel1, f1, lk⟩ := lock_cases rel h0
  rcases lk with lk | ⟨a, u, hu, ha, hz, hn, lk⟩
  · exact .inl (hi σ H Q lk ⟨Z1, ρ1, Fs1, d, ρ', rel1, hf, fun v H' Z' Fs' F rel' f' w c => q v H' Z' Fs' F rel' (f1.trans f') w (Cf.late f1 c)⟩)
  · refine .inr ⟨a, u, ha, hu.mut, fun od => hi σ _ _ (lk od).2 ⟨Z1, ρ1, Fs1, d, ρ', (lk od).1, hf, fun v H' Z' Fs' F rel' f' w c => ?_⟩⟩
    have e := f'.keep.frz a od u upd_same
    have z' := f'.zz a hz
    exact ⟨e, q v _ Z' Fs' F (rel'.unlk hu e z') (f1.trans (f'.unlk hu ha)) (w.unlk hu e z') (Cf.late f1 (c.unlk ha))⟩
theorem pev_lcD (i : Nat) {scope : Scope} {own : List (Str × Nat)} (hc : X.calm = true) (hN : X.N.Nodup) (hi : PI X tg iter (tVIk X.K i)) (ok : BlkOk X.N X.env.scope scope own)
    (hg : ∀ (s : Shared) (H : Hp) (C : Addr) (cl : List (Str × Addr)) (fp : List Addr), PGV (X.blk s H scope (compEnvC scope cl C X.env) fp) Wg Tg tg g) (ht : ∀ (s : Shared) (H : Hp) (C : Addr) (cl : List (Str × Addr)) (fp : List Addr), PTsV (X.blk s H scope (compEnvC scope cl C X.env) fp) Tt ifs ft)
    (he : ∀ (s : Shared) (H : Hp) (C : Addr) (cl : List (Str × Addr)) (fp : List Addr), PEV (X.blk s H scope (compEnvC scope cl C X.env) fp) Te [] true elt fe) (hW : Wg.all (fun i => (own.map (·.2)).contains i) = true := by rfl)
    (hs : ∀ x, foldedSetIterable iter X.env x = pure x := by intro _; rfl) :
    PEV X (i :: ([] ++ (((own.map (·.2)) ++ (Tg ++ (Tt ++ Te))) ++ (own.map (·.2))))) [] true (.ListComp elt [⟨tg, iter, ifs, 0⟩] scope pos) (fDk i (fComp (own.map (·.2)) (iKy i) g ft fe)) :=
  PE.imp (PE.orLock (pe_lc hc hN hi ok hg ht he hs)) fun σ H Q h => by
    refine tve_lock i ?_ h
    intro σ H Q lk q
    exact ⟨lk, tv_comp (X := X) (T := []) (O := []) _ hW rfl q⟩
theorem psv_setLcD (i j : Nat) {z : Str} {py spos : Pos} {scope : Scope} {own : List (Str × Nat)} (hc : X.calm = true) (hN : X.N.Nodup) (hsw : swapsWith (.ListComp elt [⟨tg, iter, ifs, 0⟩] scope pos) (some (.Name z py)) spos.line X.env = pure true) (hi : PI X tg iter (tVIk X.K i)) (ok : BlkOk X.N X.env.scope scope own)
    (hg : ∀ (s : Shared) (H : Hp) (C : Addr) (cl : List (Str × Addr)) (fp : List Addr), PGV (X.blk s H scope (compEnvC scope cl C X.env) fp) Wg Tg tg g) (ht : ∀ (s : Shared) (H : Hp) (C : Addr) (cl : List (Str × Addr)) (fp : List Addr), PTsV (X.blk s H scope (compEnvC scope cl C X.env) fp) Tt ifs ft)
    (he : ∀ (s : Shared) (H : Hp) (C : Addr) (cl : List (Str × Addr)) (fp : List Addr), PEV (X.blk s H scope (compEnvC scope cl C X.env) fp) Te [] true elt fe) (hy : X.N[j]? = some z := by rfl) (hyl : X.env.scope.names.lookup z = some .local := by rfl)
    (hW : Wg.all (fun i => (own.map (·.2)).contains i) = true := by rfl) (hs : ∀ x, foldedSetIterable iter X.env x = pure x := by intro _; rfl) :
    PSV X [j] (i :: (j :: ([] ++ (((own.map (·.2)) ++ (Tg ++ (Tt ++ Te))) ++ (own.map (·.2)))))) (.Assign [.Name z py] (.ListComp elt [⟨tg, iter, ifs, 0⟩] scope pos) spos) (sDk i (sSet j (fComp (own.map (·.2)) (iKy i) g ft fe))) :=
  PS.imp (PS.orLock (ps_setLc (g := tVG X.K Wg Tg g) (tt := tVT X.K Tt ft) (te := tV X.K Te [] true fe) hc hN hy hyl hsw hi ok hg ht he hs)) fun D σ H h => tvs_lock i (fun D σ H lk q => by
    obtain ⟨Z, ρ, Fs, r, rel, hf, h1, h2, h3, h4⟩ := q
    unfold sSet at hf
    obtain ⟨⟨d, ρ1⟩, hp, hf⟩ := Option.bind_eq_some_iff.mp hf
    cases hf
    exact ⟨lk, tv_comp (X := X) (T := []) (O := []) _ hW rfl ⟨Z, ρ, Fs, d, ρ1, rel, hp, fun v H' Z' Fs' F rel' f' w c => h1 _ rfl _ _ _ _ (Fin.put rel' f' w c)⟩⟩) h
end
end Vl

namespace Vl
open PySem PySem.Spec PyProof.Rows L2

/-! ### enumerate of a tuple -/
abbrev tuIt (l : Addr) : Obj := { cls := .type "tuple_iterator", data := .fields #[.ref l, .int 0 0] }
abbrev enOb (b : Addr) : Obj := { cls := .type "enumerate", data := .fields #[.none, .bool false, .ref b, rawInt 0, .none, .none] }
theorem enum_newT (l : Addr) (items : Array Value) (n : Nat) (dct : Option Addr) (sl : Array (Option Value)) :
    Meets (Builtin.«enumerate.__new__» ⟨[.type "enumerate", .ref l], []⟩) (fun _ R s => s.heap.get? l = some { cls := .type "tuple", dict := dct, data := .seq items n, slots := sl } ∧
      R (.ok (.ret (.ref (s.heap.push (tuIt l)).objs.size))) { s with heap := (s.heap.push (tuIt l)).push (enOb s.heap.objs.size) }) :=
  .of_wp fun prog w A R s h => by
    obtain ⟨hp, g, d, tk, os⟩ := s
    obtain ⟨hl, h⟩ := h
    have hsub := PySem.sub_enumerate
    have hL : Heap.IsTuple (Shared.heap ⟨hp, g, d, tk, os⟩) l items := ⟨_, hl, rfl, n, rfl⟩
    wp_walk using AutoSeq1.wpAny_loadPart' hl
    refine wpAny_stack_any fun st => wpAny_pure ?_
    split
    · rename_i c _ _ _ _ _
      cases (c == Value.type "enumerate")
      · wp_walk using AutoSeq1.wpAny_loadPart' hl, wpAny_pyIter_tuple hL
        exact ⟨_, rfl, h⟩
      · wp_walk using AutoSeq1.wpAny_loadPart' hl, wpAny_pyIter_tuple hL
        exact ⟨_, rfl, h⟩
    · wp_walk using AutoSeq1.wpAny_loadPart' hl, wpAny_pyIter_tuple hL
      exact ⟨_, rfl, h⟩
section
variable {prog : Program} {w : World} {A : Around} {E : Value → Shared → Prop} {s : Shared}
theorem call_enum_tup {l : Addr} {items : Array Value} {Q : Value → Shared → Prop} (hL : s.heap.IsTuple l items)
    (h : ∀ h', IsEnum h' (s.heap.objs.size + 1) s.heap.objs.size 0 .none → h'.IsTupleIter s.heap.objs.size l 0 → (∀ b o, s.heap.get? b = some o → h'.get? b = some o) → Q (.ref (s.heap.objs.size + 1)) { s with heap := h' }) :
    wpAny (model prog w) A (call (.type "enumerate") [.ref l]) Q E s := by
  obtain ⟨⟨c, dct, dt, sl⟩, hl, hc, n, hd⟩ := hL
  replace hc : c = .type "tuple" := hc
  replace hd : dt = .seq items n := hd
  subst hc hd
  refine callType_new F.called_enumerate (by decide) (F.typeCall_enumerate_1 _) (F.newCall_enumerate_1 _) (fun obj => F.args_object_init_2 obj _) F.entry_enumerate_new (enum_newT l items n dct sl) ⟨hl, ?_⟩
  have hz : (s.heap.push (tuIt l)).objs.size = s.heap.objs.size + 1 := Heap.size_push ..
  show _ ∧ _
  rw [hz]
  have he : IsEnum ((s.heap.push (tuIt l)).push (enOb s.heap.objs.size)) (s.heap.objs.size + 1) s.heap.objs.size 0 .none := by
    have e := Heap.get?_push_size (s.heap.push (tuIt l)) (o := enOb s.heap.objs.size) rfl
    rw [hz] at e
    exact e
  exact ⟨⟨_, he, rfl⟩, h _ he ⟨_, Heap.get?_push_of_some _ (Heap.get?_push_size _ rfl), rfl, rfl⟩ fun b o x => Heap.get?_push_of_some _ (Heap.get?_push_of_some _ x)⟩
end
def Itf (K : PySem.W.Frag) (a : Addr) : It :=
  ⟨fun i H => ∃ (xs : List V) (x : V), SqT K H a xs ∧ xs[i]? = some x, fun i H v H' => ∃ T x, v = .ref T ∧ H T = none ∧ H' = upd H T (.tup [.int (i : Nat), x]) ∧ ∀ xs, SqT K H a xs → xs[i]? = some x, fun i H => ∃ xs : List V, SqT K H a xs ∧ xs.length = i⟩
theorem turn_enumT {P : Program} {w : World} {K : PySem.W.Frag} {elts : List Expr} {kk : Nat} {tpos : Pos} (a e it : Addr) :
    Turn P w K (.Tuple elts kk tpos) (Itf K a) [e, it] e (fun i h => (∃ old, IsEnum h e it ((i : Nat) : Int) old) ∧ h.IsTupleIter it a i ∧ e ≠ it ∧ a ≠ it ∧ a ≠ e) where
  mem := by simp
  obj := fun i h st b hb => by
    obtain ⟨⟨old, he⟩, ⟨o, ho, hc, hd⟩, _⟩ := st
    have e' : b = e ∨ b = it := by simpa using hb
    rcases e' with z | z
    · rw [z]; exact ⟨_, he, fun v q => nomatch q⟩
    · rw [z]; exact ⟨o, ho, fun v q => by rw [hd] at q; cases q⟩
  keep := fun i h h' st k => let ⟨⟨old, he⟩, hi, hne⟩ := st; ⟨⟨old, k e (by simp) _ he⟩, hi.at fun o q => k it (by simp) o q, hne⟩
  item := by
    intro X hP hw hK hc i pins s σ H E I hf st hg
    subst hP hw hK
    obtain ⟨⟨old, he⟩, hit, hne, hai, hae⟩ := st
    obtain ⟨xs, x, hq, hx⟩ := hg
    obtain ⟨its, rv, p, hz⟩ := I.tuple hq
    obtain ⟨u, hu, ru⟩ := rv.get hx
    have hel : e < s.heap.objs.size := Heap.lt_size he
    have hil : it < s.heap.objs.size := by obtain ⟨_, q, _⟩ := hit; exact Heap.lt_size q
    have hlt : i < its.toArray.size := by rw [List.size_toArray]; exact (List.getElem?_eq_some_iff.mp hu).1
    refine wpAny_pyNext_enum_itemD (n := its.toArray.size) (Draws.tuple (A := X.A.in1) (show X.A.in1.handled = none from I.ok.hd hc) it a hai its.toArray) he ⟨hit, p⟩ hlt hne (by simp [hne, Ne.symm hae]) fun y h' tk hy ho hst' hT hsz hk => ?_
    have ey : y = u := Option.some.inj (hy.symm.trans (by simpa using hu))
    subst ey
    refine ⟨_, rfl, wpAny_letOwnedTupleGo_enum (s := { s with heap := h', toks := tk + 1 }) ho fun h'' he' sb => ?_⟩
    have hT2 : h''.get? s.heap.objs.size = some { cls := .type "tuple", data := .seq #[.int i tk, y] } := (sb.2 _ (Nat.ne_of_gt hel)).trans hT
    have new : ObjOk X.prog X.w (upd H s.heap.objs.size (.tup [.int (i : Nat), x])) h'' s.heap.objs.size (.tup [.int (i : Nat), x]) :=
      ⟨by show 2 ≤ sizeLine; decide, [.int i tk, y], .cons ⟨_, rfl⟩ (.cons ru .nil), ⟨_, hT2, rfl, _, rfl⟩⟩
    have I1 : Inv X pins σ (upd H s.heap.objs.size (.tup [.int (i : Nat), x])) { s with heap := h'', toks := tk + 1 } :=
      I.turnedNew (ch := [e, it]) (fun b ob hb q => (sb.2 b (fun z => hb (by simp [z]))).trans (hk b ob (fun z => hb (by simp [z])) (fun z => hb (by simp [z])) q)) hf (Nat.le_refl _) new
    refine ⟨.ref s.heap.objs.size, _, I1, rfl, ⟨_, x, rfl, I.hok.fresh (Nat.le_refl _), rfl, fun ys hy => by rw [I.tuple_inj hy hq]; exact hx⟩, ⟨⟨y, ?_⟩, hst'.1.at fun o q => (sb.2 it (Ne.symm hne)).trans q, hne, hai, hae⟩, fun b hb => ?_⟩
    · have e1 : ((i + 1 : Nat) : Int) = (i : Int) + 1 := by omega
      rw [e1]; exact he'
    · have hb' : b < s.heap.objs.size := by
        have e' : b = e ∨ b = it := by simpa using hb
        rcases e' with z | z
        · rw [z]; exact hel
        · rw [z]; exact hil
      rw [upd_ne (Nat.ne_of_lt hb')]
      exact (hf b hb).1
  done := by
    intro X hP hw hK hc i pins s σ H E I hf st hg
    subst hP hw hK
    obtain ⟨⟨old, he⟩, hit, hne, hai, hae⟩ := st
    obtain ⟨xs, hq, hx⟩ := hg
    obtain ⟨its, rv, p, hz⟩ := I.tuple hq
    obtain ⟨f0, f1, f2, f3, f4, f5⟩ := hf it (by simp)
    have hl := rv.length
    have hn : i = its.toArray.size := by rw [List.size_toArray]; omega
    rw [hn] at he hit
    exact wpAny_pyNext_enum_endD (n := its.toArray.size) (Draws.tuple (A := X.A.in1) (show X.A.in1.handled = none from I.ok.hd hc) it a hai its.toArray) he ⟨hit, p⟩ fun h' eb => ⟨rfl, I.turned (t' := s.toks) (fun b o hb q => eb b o hb q) f0 f1 f3 f4 f5⟩
  self := fun A i s Q E st h => let ⟨⟨_, he⟩, _⟩ := st; wpAny_pyIter_enum he h
theorem walk_enumT {K : PySem.W.Frag} {a : Addr} {xs : List V} : Walk (Itf K a) xs.length (fun H => SqT K H a xs) (YPair (fun i => some (.int (i : Nat))) (fun i => xs[i]?)) := by
  refine ⟨fun i _ hi q => ⟨xs, xs[i], q, by simp [hi]⟩, fun _ q => ⟨xs, q, rfl⟩, fun i H v H' _ q y => ?_⟩
  obtain ⟨T, x, h1, h2, h3, h4⟩ := y
  exact ⟨T, .int (i : Nat), x, h1, h2, h3, rfl, h4 xs q⟩
def iEnumA (K : PySem.W.Frag) (te : TE) : TI := fun σ H R => te σ H fun v H1 => ∃ a, v = .ref a ∧ ((∃ xs, SqL K H1 a xs ∧ R (Ite K a) H1) ∨ ∃ xs, SqT K H1 a xs ∧ R (Itf K a) H1)
theorem pi_enumA {X : Cx} {e : Expr} {te : TE} {p pos tpos : Pos} {elts : List Expr} {kk : Nat} (hg : Gl X "enumerate") (hm : X.mg "enumerate" = none) (he : PE X e te) (hs : starEach [e] X.env = (false, eval e X.env) :: starEach [] X.env := by rfl) :
    PI X (.Tuple elts kk tpos) (.Call (.Name "enumerate" p) [e] [] pos) (iEnumA X.K te) := by
  refine ⟨fun pins s σ H R I h => ?_⟩
  refine Call_ (ld_blt I hg hm boot_enumerate (PyProof.Rows.callWith_type1 (args_cons (thn (he.run pins s σ H _ I h) fun u s1 ⟨v, H1, I1, r1, a, ex, q⟩ => args_nil ?_) hs) hs rfl))
  subst ex
  obtain rfl : u = Value.ref a := r1
  have fp : ∀ b ∈ [s1.heap.objs.size + 1, s1.heap.objs.size], FpOk X pins H1 b := fun b hb => by
    have e' : b = s1.heap.objs.size + 1 ∨ b = s1.heap.objs.size := by simpa using hb
    have hle : s1.heap.objs.size ≤ b := by
      rcases e' with z | z
      · rw [z]; exact Nat.le_add_right _ _
      · rw [z]; exact Nat.le_refl _
    exact I1.fpOk hle (I1.hok.fresh hle)
  rcases q with ⟨xs, hq, q⟩ | ⟨xs, hq, q⟩
  · obtain ⟨its, rv, p', hz⟩ := I1.list hq
    refine call_enumerate_list p'.isList fun h' he hit hsz hk => wpAny_pyIter_enum he ?_
    exact ⟨s1.heap.objs.size + 1, [s1.heap.objs.size + 1, s1.heap.objs.size], _, _, H1, rfl, I1.kept (t' := s1.toks) hk, turn_enum a (s1.heap.objs.size + 1) s1.heap.objs.size, ⟨⟨.none, he⟩, hit, Nat.succ_ne_self _⟩, fp, q⟩
  · obtain ⟨its, rv, p', hz⟩ := I1.tuple hq
    have hlt : a < s1.heap.objs.size := by obtain ⟨o, ho, _⟩ := p'; exact Heap.lt_size ho
    refine call_enum_tup p' fun h' he hit hk => wpAny_pyIter_enum he ?_
    exact ⟨s1.heap.objs.size + 1, [s1.heap.objs.size + 1, s1.heap.objs.size], _, _, H1, rfl, I1.kept (t' := s1.toks) hk, turn_enumT a (s1.heap.objs.size + 1) s1.heap.objs.size, ⟨⟨.none, he⟩, hit, Nat.succ_ne_self _, Nat.ne_of_lt hlt, Nat.ne_of_lt (Nat.lt_succ_of_lt hlt)⟩, fp, q⟩
/-- the pairs of an index and an item -/
def enumD : Nat → List D → List D
  | _, [] => []
  | i, d :: r => .tup [.int (i : Nat), d] :: enumD (i + 1) r
theorem enumD_length : ∀ (i : Nat) (l : List D), (enumD i l).length = l.length
  | _, [] => rfl
  | i, _ :: r => congrArg (· + 1) (enumD_length (i + 1) r)
theorem enumD_get : ∀ (l : List D) (i j : Nat), (enumD i l)[j]? = (l[j]?).map fun d => .tup [.int ((i + j : Nat) : Int), d]
  | [], i, j => by simp [enumD]
  | d :: r, i, 0 => by simp [enumD]
  | d :: r, i, j + 1 => by
    have e := enumD_get r (i + 1) j
    rw [show i + 1 + j = i + (j + 1) by omega] at e
    simpa [enumD] using e
def iEnm (f : M D) : M (List D) := fun ρ => (f ρ).bind fun p => (itemsOf p.1).bind fun l => some (enumD 0 l, p.2)
section
variable {X : Cx} {T O : List Nat} {x : Bool} {e : Expr} {f : M D}
theorem stay_pair {K : PySem.W.Frag} {Z : Addr → Prop} {H : Hp} {A : List Addr} {G : Hp → Prop} {l : List D} {xs : List V}
    (st : ∀ (M : Addr → Prop) (Z2 : Addr → Prop) (H2 : Hp), Keep M H H2 → (∀ a ∈ A, ¬ M a) → (∀ a, Z a → ¬ M a) → (∀ a, Z a → Z2 a) → G H2 ∧ Rs K Z2 H2 l xs []) :
    Stay K Z H A G (YPair (fun i => some (.int (i : Nat))) (fun i => xs[i]?)) (enumD 0 l) := fun M Z2 H2 k hA hZ zz => by
  obtain ⟨g, rs⟩ := st M Z2 H2 k hA hZ zz
  refine ⟨g, fun i v h d hy hi => ?_⟩
  obtain ⟨T, a, b, rfl, hT, rfl, ha, hb⟩ := hy
  cases ha
  rw [enumD_get] at hi
  obtain ⟨d', hd, rfl⟩ := Option.map_eq_some_iff.mp hi
  obtain ⟨w, G', h1, h2, h3⟩ := rs.get hd
  have e : b = w := Option.some.inj (hb.symm.trans h1)
  subst e
  have e2 : G' = [] := by
    cases G' with
    | nil => rfl
    | cons x r => exact absurd (h3 x List.mem_cons_self) (by simp)
  subst e2
  have k1 : Keep M0 H2 (upd H2 T (.tup [.int (i : Nat), b])) := Keep.new hT
  refine ⟨k1, .tup upd_same (.cons0 ?_ (.cons0 (h2.keep0 k1) .nil))⟩
  rw [Nat.zero_add]
  exact .int _
theorem piv_enum {p pos tpos : Pos} {elts : List Expr} {kk : Nat} (hg : Gl X "enumerate") (hm : X.mg "enumerate" = none) (he : PEV X T O x e f) (hs : starEach [e] X.env = (false, eval e X.env) :: starEach [] X.env := by rfl) :
    PIV X T O (.Tuple elts kk tpos) (.Call (.Name "enumerate" p) [e] [] pos) (iEnm f) := by
  refine PI.imp (pi_enumA hg hm he hs) fun σ H Rk h => ?_
  obtain ⟨Z, ρ, Fs, items, ρ', rel, hf, q⟩ := h
  unfold iEnm at hf
  obtain ⟨⟨d, ρ1⟩, h1, hf⟩ := Option.bind_eq_some_iff.mp hf
  obtain ⟨l, h2, hf⟩ := Option.bind_eq_some_iff.mp hf
  cases hf
  refine ⟨Z, ρ, Fs, d, _, rel, h1, fun v H' Z' Fs' F rel' f' w c => ?_⟩
  have w0 := w.r
  cases d <;> simp only [itemsOf] at h2 <;> try (cases h2)
  · split at h2
    · rename_i hn
      cases h2
      obtain ⟨a, vs, e, hq, hl, st⟩ := w.r.tup_keep (Z' := Z') (H' := H') hn
      refine ⟨a, e, .inr ⟨vs, hq, ?_⟩⟩
      have wk := walk_enumT (K := X.K) (a := a) (xs := vs)
      rw [← hl, ← enumD_length 0] at wk
      exact q _ H' Z' Fs' F _ _ rel' f' wk w.ori (stay_pair fun M Z2 H2 k _ hZ zz => st M Z2 H2 k hZ zz)
    · cases h2
  · split at h2
    · rename_i hn
      cases h2
      obtain ⟨a, vs, e, hq, hl, st⟩ := w.r.lst_keep (Z' := Z') (H' := H') hn
      refine ⟨a, e, .inl ⟨vs, hq, ?_⟩⟩
      have wk := walk_enum (K := X.K) (a := a) (xs := vs)
      rw [← hl, ← enumD_length 0] at wk
      exact q _ H' Z' Fs' F _ _ rel' f' wk w.ori (stay_pair st)
    · cases h2
  · split at h2
    · cases h2
      obtain ⟨a, vs, e, hq, hl, st⟩ := w.r.scr_keep (Z' := Z') (H' := H')
      refine ⟨a, e, .inl ⟨vs, hq, ?_⟩⟩
      have wk := walk_enum (K := X.K) (a := a) (xs := vs)
      rw [← hl, ← enumD_length 0] at wk
      exact q _ H' Z' Fs' F _ _ rel' f' wk w.ori (stay_pair st)
    · cases h2
  · split at h2
    · rename_i hn
      cases h2
      obtain ⟨a, vs, e, hq, hl, st⟩ := w.r.xt_keep (Z' := Z') (H' := H') hn
      refine ⟨a, e, .inr ⟨vs, hq, ?_⟩⟩
      have wk := walk_enumT (K := X.K) (a := a) (xs := vs)
      rw [← hl, ← enumD_length 0] at wk
      exact q _ H' Z' Fs' F _ _ rel' f' wk w.ori (stay_pair fun M Z2 H2 k _ hZ zz => st M Z2 H2 k hZ zz)
    · cases h2
end
end Vl

namespace Vl
open PySem PySem.Spec PyProof.Rows L2

section
variable {K : PySem.W.Frag} {Z : Addr → Prop} {H : Hp}
/-! ### dict(d), list(d) -/
def gDict : List D → Option D
  | [.dct _ false kvs] => if D.noOwnP kvs = true then some (.dct true false kvs) else none
  | _ => none
def rDictD : List V → Hp → VK → Prop := fun xs H Q => ∃ (a : Addr) (kvs : List (Key × V)), xs = [.ref a] ∧ Rd H a (.dK kvs) ∧ ∀ p, H p = none → Q (.ref p) (upd H p (.dK kvs))
def rListK : List V → Hp → VK → Prop := fun xs H Q => ∃ (a : Addr) (kvs : List (Key × V)), xs = [.ref a] ∧ Rd H a (.dK kvs) ∧ ∀ p, H p = none → Q (.ref p) (upd H p (.lst (kvs.map fun kv => kV kv.1)))
theorem cs_dict : ClS K rDictD gDict := fun Z H ds vs F1 d Q rs hg q => by
  unfold gDict at hg
  split at hg
  · rename_i o kvs
    split at hg
    · rename_i hn
      cases hg
      obtain ⟨v, rfl, rv⟩ := rs.one_inv
      obtain ⟨a, ws, G, rfl, hr, dr, hs⟩ := rv.dct_rd
      have e0 : G = [] := dr.rs.no (by rw [← noOwnP_eq]; exact hn)
      subst e0
      refine ⟨a, ws, rfl, hr, fun p hp => ?_⟩
      have k : Keep M0 H (upd H p (.dK ws)) := Keep.new hp
      exact q _ _ [p] k (DRel.at upd_same ⟨dr.ks, dr.rs.keep0 k⟩) (by simp) fun b hb => by rw [List.mem_singleton.mp hb]; exact hp
    · cases hg
  · cases hg
def rListA (K : PySem.W.Frag) : List V → Hp → VK → Prop := fun xs H Q => (∃ p ys, xs = [.ref p] ∧ (SqL K H p ys ∨ SqT K H p ys) ∧ ∀ l, H l = none → Q (.ref l) (upd H l (.lst ys))) ∨ rListK xs H Q
def gListA (ds : List D) : Option D := match ds with
  | [.dct _ false kvs] => some (.lst true (kvs.map (·.1)))
  | _ => gList ds
theorem rs_kDs : ∀ ws : List (Key × V), Rs K Z H (ws.map fun p => kD p.1) (ws.map fun p => kV p.1) []
  | [] => .nil
  | p :: r => .cons0 (rs_keys p.1) (rs_kDs r)
theorem cs_listA : ClS K (rListA K) gListA := fun Z H ds vs F1 d Q rs hg q => by
  unfold gListA at hg
  split at hg
  · rename_i o kvs
    cases hg
    obtain ⟨v, rfl, rv⟩ := rs.one_inv
    obtain ⟨a, ws, G, rfl, hr, dr, hs⟩ := rv.dct_rd
    refine .inr ⟨a, ws, rfl, hr, fun p hp => ?_⟩
    have k : Keep M0 H (upd H p (.lst (ws.map fun kv => kV kv.1))) := Keep.new hp
    refine q _ _ [p] k (.own upd_same ?_) (by simp) fun b hb => by rw [List.mem_singleton.mp hb]; exact hp
    rw [dr.ks]
    exact rs_kDs ws
  · exact .inl (cs_list Z H ds vs F1 d Q rs hg q)
theorem call_listA {X : Cx} (hc : X.calm = true) : CallR X (.type "list") (rListA X.K) := CallR.or call_list_of (call_listD hc)
/-! ### comparing with {} -/
def rEqZ (K : PySem.W.Frag) : R2 := fun x y H Q => rEqD K x y H Q ∨ ∃ a b ks, x = .ref a ∧ y = .ref b ∧ Rd H a (.dK ks) ∧ Rd H b (.dK []) ∧ Q (.bl ks.isEmpty) H
theorem op_eqZ {X : Cx} (hu : X.A.units + 64 < cLine) : OpR X (compareOp .Eq) (rEqZ X.K) := OpR.or (op_eqD hu) fun pins s σ H x y v u Q I rx ry h => by
  obtain ⟨a, b, ks, rfl, rfl, ea, eb, q⟩ := h
  obtain rfl : v = Value.ref a := rx
  obtain rfl : u = Value.ref b := ry
  obtain ⟨_, ya, va, ra, da⟩ := dk_rd I.hok ea
  obtain ⟨_, yb, vb, rb, db⟩ := dk_rd I.hok eb
  have hl : vb.length = 0 := by rw [← rb.length]; rfl
  refine PySem.W.keq_eq (knd := mixKind X.prog X.w) (r := true) ya yb da db (by omega) (fun h0 => ?_) (fin_bl I q ?_)
  · have e : va.length = 0 := by first | (have := of_decide_eq_true h0; omega) | omega
    have e2 : ks = [] := List.eq_nil_of_length_eq_zero (by rw [ra.length]; exact e)
    subst e2
    exact hits_all rb ra (fun p hp => by cases hp)
  · cases ks <;> simp [hl, ← ra.length]
def gEqZ (d e : D) : Option D := match d, e with
  | .dct _ false kvs, .dct _ false [] => some (.bl kvs.isEmpty)
  | _, _ => gEq d e
theorem os_eqZ : OpS K (rEqZ K) gEqZ := fun Z H d1 d2 v1 v2 F1 F2 d Q r1 r2 hg q => by
  unfold gEqZ at hg
  split at hg
  · rename_i o kvs o2
    cases hg
    obtain ⟨a, ws, G, rfl, hr, dr, hs⟩ := r1.dct_rd
    obtain ⟨b, ws2, G2, rfl, hr2, dr2, hs2⟩ := r2.dct_rd
    have e := dr2.nil_
    subst e
    refine .inr ⟨a, b, ws, rfl, rfl, hr, hr2, ?_⟩
    have e : ws.isEmpty = kvs.isEmpty := by
      have := congrArg List.length dr.ks
      rw [List.length_map, List.length_map] at this
      cases kvs <;> cases ws <;> first | rfl | (simp at this)
    rw [e]
    exact q _ H [] (Keep.refl _ _) (.bl _) List.nodup_nil fun _ h => (by cases h)
  · exact .inl (os_eq Z H d1 d2 v1 v2 F1 F2 d Q r1 r2 hg q)
end
section
variable {X : Cx} {T T0 T1 T2 O O0 O1 O2 : List Nat} {x x0 x1 x2 : Bool} {o e f : Expr} {fo fk fx : M D} {pos npos apos cpos : Pos} {y : Str}
/-! ### d.get(k), d.get(k, x) -/
def gGet2 (d0 k z : D) : Option D := match d0 with
  | .dct _ false kvs => (keyOf k).bind fun _ => some ((lookD kvs k).getD z)
  | .dct _ true kvs => (keyT k).bind fun _ => some ((lookD kvs k).getD z)
  | _ => none
def fGet2 (O0 T1 T2 : List Nat) (fo fk fx : M D) : M D := fun ρ => (fo ρ).bind fun p => (fk p.2).bind fun q => (fx q.2).bind fun r => if (safe O0 (T1 ++ T2) p.1 && q.1.noOwn && r.1.noOwn) = true then (gGet2 p.1 q.1 r.1).bind fun d => if d.noOwn = true then some (d, r.2) else none else none
theorem getT_of {K : PySem.W.Frag} {Z : Addr → Prop} {H : Hp} {kvs : List (D × D)} {ws : List (List Key × V)} {F : List Addr} {k : List Key} {z d : D} {w : V} (dr : DRel K Z H encT kvs ws F) (rz : R K Z H z w []) (e : (lookD kvs (encT k)).getD z = d) (hn : d.noOwn = true) : R K Z H d ((valV ws k).getD w) [] := by
  obtain ⟨h1, h2⟩ := dr.look kEq_encT k
  cases c : lookD kvs (encT k) with
  | none =>
    rw [c] at e
    cases e
    rw [h2 c]
    exact rz
  | some d' =>
    rw [c] at e
    cases e
    obtain ⟨v, G, z1, z2, z3⟩ := h1 _ c
    rw [z1]
    have e2 := z2.no hn
    subst e2
    exact z2
theorem getD_of {K : PySem.W.Frag} {Z : Addr → Prop} {H : Hp} {kvs : List (D × D)} {ws : List (Key × V)} {F : List Addr} {k : Key} {z d : D} {w : V} (dr : DRel K Z H kD kvs ws F) (rz : R K Z H z w []) (e : (lookD kvs (kD k)).getD z = d) (hn : d.noOwn = true) : R K Z H d ((valV ws k).getD w) [] := by
  obtain ⟨h1, h2⟩ := dr.look kEq_kD k
  cases c : lookD kvs (kD k) with
  | none =>
    rw [c] at e
    cases e
    rw [h2 c]
    exact rz
  | some d' =>
    rw [c] at e
    cases e
    obtain ⟨v, G, z1, z2, z3⟩ := h1 _ c
    rw [z1]
    have e2 := z2.no hn
    subst e2
    exact z2
theorem pev_get2 (hu : X.A.units + 1 < cLine) (ho : PEV X T0 O0 x0 o fo) (hk : PEV X T1 O1 x1 e fk) (hx : PEV X T2 O2 x2 f fx) (m : M2 X o "get" apos e f cpos := by exact ⟨rfl, rfl, rfl, rfl⟩) :
    PEV X (T0 ++ (T1 ++ T2)) [] true (.Call (.Attribute o "get" apos) [e, f] [] cpos) (fGet2 O0 T1 T2 fo fk fx) := by
  refine PE.imp (pe_dget2 hu ho hk hx m) fun σ H Q h => ?_
  obtain ⟨Z, ρ, Fs, d, ρ', rel, hf, q⟩ := h
  unfold fGet2 at hf
  obtain ⟨⟨d0, ρ0⟩, h0, hf⟩ := Option.bind_eq_some_iff.mp hf
  obtain ⟨⟨dk, ρ1⟩, h1, hf⟩ := Option.bind_eq_some_iff.mp hf
  obtain ⟨⟨dx, ρ2⟩, h2, hf⟩ := Option.bind_eq_some_iff.mp hf
  split at hf
  · rename_i hs
    simp only [Bool.and_eq_true] at hs
    obtain ⟨⟨hs1, hs2⟩, hs3⟩ := hs
    obtain ⟨d', h3, hf⟩ := Option.bind_eq_some_iff.mp hf
    split at hf
    · rename_i hn
      cases hf
      have h3 : gGet2 d0 dk dx = some _ := h3
      unfold gGet2 at h3
      split at h3
      · rename_i o kvs
        obtain ⟨k, hkk, h3⟩ := Option.bind_eq_some_iff.mp h3
        cases h3
        refine ⟨Z, ρ, Fs, _, ρ0, rel, h0, fun v0 H0 Z0 Fs0 F0 rel0 f0 w0 c0 => ?_⟩
        obtain ⟨a, ws0, G0, rfl, hr0, _, _⟩ := w0.r.dct_rd
        refine ⟨a, rfl, .inl ⟨ws0, hr0⟩, Z0, ρ0, Fs0, dk, ρ1, rel0, h1, fun vk H1 Z1 Fs1 F1 rel1 f1 w1 c1 => ?_⟩
        refine ⟨Z1, ρ1, Fs1, dx, ρ2, rel1, h2, fun vx H2 Z2 Fs2 F2 rel2 f2 w2 c2 => ?_⟩
        have w0' := w0.keep rel0 (f1.trans f2) hs1
        obtain ⟨a', ws, G, e, hr, dr, hs⟩ := w0'.r.dct_rd
        cases e
        obtain ⟨rfl, rfl⟩ := w1.r.key hkk
        have e3 := w2.r.no hs3
        have rx := w2.r
        rw [e3] at rx
        refine ⟨valV ws k, .inl ⟨ws, k, hr, rfl, rfl⟩, ?_⟩
        have rr := getD_of (k := k) dr rx rfl hn
        exact q _ H2 Z2 Fs2 [] rel2 (f0.trans (f1.trans f2)) (Val.imm rr hn) Cf.nil
      · rename_i o kvs
        obtain ⟨k, hkk, h3⟩ := Option.bind_eq_some_iff.mp h3
        cases h3
        refine ⟨Z, ρ, Fs, _, ρ0, rel, h0, fun v0 H0 Z0 Fs0 F0 rel0 f0 w0 c0 => ?_⟩
        obtain ⟨a, ws0, G0, rfl, hr0, _, _⟩ := w0.r.dctT_rd
        refine ⟨a, rfl, .inr ⟨ws0, hr0⟩, Z0, ρ0, Fs0, dk, ρ1, rel0, h1, fun vk H1 Z1 Fs1 F1 rel1 f1 w1 c1 => ?_⟩
        refine ⟨Z1, ρ1, Fs1, dx, ρ2, rel1, h2, fun vx H2 Z2 Fs2 F2 rel2 f2 w2 c2 => ?_⟩
        have w0' := w0.keep rel0 (f1.trans f2) hs1
        obtain ⟨a', ws, G, e, hr, dr, hs⟩ := w0'.r.dctT_rd
        cases e
        obtain ⟨c, rfl, hc, rfl⟩ := R.keyT hkk w1.r
        have e3 := w2.r.no hs3
        have rx := w2.r
        rw [e3] at rx
        refine ⟨valV ws k, .inr ⟨ws, k, c, hr, rfl, f2.keep.tup _ _ hc, rfl⟩, ?_⟩
        have rr := getT_of (k := k) dr rx rfl hn
        exact q _ H2 Z2 Fs2 [] rel2 (f0.trans (f1.trans f2)) (Val.imm rr hn) Cf.nil
      · cases h3
    · cases hf
  · cases hf
/-! ### d.pop(k) -/
def gDpop (d0 k : D) : Option (D × D) := match d0 with
  | .dct true false kvs => (keyOf k).bind fun _ => if D.noOwnP kvs = true then (lookD kvs k).map fun d => (d, .dct true false (delD kvs k)) else none
  | _ => none
def fDpop (i : Nat) (fk : M D) : M D := fun ρ => (Env.at ρ i).bind fun o => match o with
  | .dct _ false _ => (fk ρ).bind fun p => (Env.at p.2 i).bind fun o' => (gDpop o' p.1).bind fun q => some (q.1, p.2.set i (some q.2))
  | _ => none
theorem lookD_mem : ∀ {kvs : List (D × D)} {k d : D}, lookD kvs k = some d → D.noOwnP kvs = true → d.noOwn = true
  | [], k, d, h, _ => by cases h
  | (k', d') :: r, k, d, h, hn => by
    have hn : (D.noOwn d' && D.noOwnP r) = true := hn
    rw [Bool.and_eq_true] at hn
    unfold lookD at h
    split at h
    · cases h; exact hn.1
    · exact lookD_mem h hn.2
theorem pev_dpop (i : Nat) (hk : PEV X T O x e fk)
    (hN : X.N[i]? = some y := by rfl) (hv : Vis X.env.scope y := by first | exact Or.inl rfl | exact Or.inr (Or.inl rfl) | exact Or.inr (Or.inr rfl)) (hd : (y == ("__debug__" : Str)) = false := by decide) (hcd : (y == ("__classdict__" : Str)) = false := by decide)
    (m : M1 X (.Name y npos) "pop" apos e cpos := by exact ⟨rfl, rfl, rfl, rfl⟩) : PEV X (T ++ [i]) [] true (.Call (.Attribute (.Name y npos) "pop" apos) [e] [] cpos) (fDpop i fk) := by
  refine PE.imp (pe_dpop1 (pe_var hN hv hd hcd) hk m) fun σ H Q h => ?_
  obtain ⟨Z, ρ, Fs, d, ρ', rel, hf, q⟩ := h
  unfold fDpop at hf
  obtain ⟨o, h0, hf⟩ := Option.bind_eq_some_iff.mp hf
  split at hf
  · obtain ⟨⟨dk, ρ1⟩, h1, hf⟩ := Option.bind_eq_some_iff.mp hf
    obtain ⟨o', h2, hf⟩ := Option.bind_eq_some_iff.mp hf
    obtain ⟨⟨d1, d'⟩, h3, hf⟩ := Option.bind_eq_some_iff.mp hf
    cases hf
    obtain ⟨v0, hv0, r0⟩ := rel.at_ i _ (Env.at_some h0)
    obtain ⟨a, ws0, G0, rfl, hr0, _, _⟩ := r0.dct_rd
    refine ⟨.ref a, hv0, a, rfl, .inl ⟨ws0, hr0⟩, Z, ρ, Fs, dk, ρ1, rel, h1, fun vk H1 Z1 Fs1 F1 rel1 f1 w1 c1 => ?_⟩
    have hio := Env.at_some h2
    obtain ⟨v1, hv1, r1⟩ := rel1.at_ i o' hio
    rw [hv0] at hv1
    cases hv1
    unfold gDpop at h3
    split at h3
    · rename_i kvs
      obtain ⟨k, hkk, h3⟩ := Option.bind_eq_some_iff.mp h3
      split at h3
      · rename_i hn
        obtain ⟨dd, hl, h3⟩ := Option.map_eq_some_iff.mp h3
        cases h3
        obtain ⟨rfl, rfl⟩ := w1.r.key hkk
        have nz1 := rel1.nz i
        have nd1 := rel1.nd i
        generalize hFi : Fs1 i = Fi at r1 nz1 nd1
        obtain ⟨a', ws, G, e, rfl, ha, dr⟩ := r1.dct_ow
        cases e
        have e0 : G = [] := dr.rs.no (by rw [← noOwnP_eq]; exact hn)
        subst e0
        obtain ⟨v, G2, z1, z2, z3⟩ := (dr.look kEq_kD k).1 d1 hl
        have e2 := z2.no (lookD_mem hl hn)
        subst e2
        refine ⟨ws, k, v, ha, rfl, z1, ?_⟩
        have kp : Keep (fun b => b = a) H1 (upd H1 a (.dK (dropK ws k))) := Keep.wr ha trivial
        have hz : ∀ b, Z1 b → ¬ b = a := fun b z e => nz1 a List.mem_cons_self (by rw [← e]; exact z)
        have dr2 := dr.del kEq_kD (k := k)
        obtain ⟨e1, e2, e3, e4, e5⟩ := mut_end (F := []) (F' := []) (F0' := [a]) rel1 f1 Cf.nil (fun j a h => (by cases h)) (fun a h => (by cases h)) hv0 (Env.lt hio) (kp.mono fun b e => by rw [hFi, e]; exact List.mem_cons_self)
          (DRel.at upd_same ⟨dr2.ks, dr2.rs.keep kp (fun _ h => h) hz fun b hb => (by cases hb)⟩) (by simp) (fun b hb => .inl (by rw [hFi]; exact hb))
        exact q v _ Z1 _ [] e1 e2 ⟨z2.keep kp (fun _ h => h) hz fun b hb => (by cases hb), fun j a h => (by cases h), fun _ => ⟨List.nodup_nil, fun _ h => (by cases h)⟩⟩ Cf.nil
      · cases h3
    · cases h3
  · cases hf
end
/-! ### min(d), max(d): keys that are ints -/
theorem list_getD {is : List Int} {i : Nat} (h : i < is.length) : is.getD i 0 = is[i] := by
  rw [List.getD_eq_getElem?_getD, List.getElem?_eq_getElem h]
  rfl
theorem key_vals {P : Program} {w : World} {is : List Int} {vs : List (Key × Value)} (hk : vs.map (·.1) = is.map Sum.inl) (i : Nat) (v : Value) : (∃ k x, vs[i]? = some (k, x) ∧ (mixKind P w).is k v = true) → ∃ t, v = Value.int (is.getD i 0) t := fun ⟨k, x, h1, h2⟩ => by
  have e1 : (vs.map (·.1))[i]? = some k := by rw [List.getElem?_map, h1] <;> rfl
  rw [hk, List.getElem?_map] at e1
  obtain ⟨j, hj, e2⟩ := Option.map_eq_some_iff.mp e1
  subst e2
  obtain ⟨t, e3⟩ := Value.isInt_shape (k := j) (v := v) h2
  exact ⟨t, by rw [e3, List.getD_eq_getElem?_getD, hj] <;> rfl⟩
def rKeyM (le : Int → Int → Prop) : List V → Hp → VK → Prop := fun vs H Q => ∃ (a : Addr) (kvs : List (Key × V)) (is : List Int), vs = [V.ref a] ∧ Rd H a (.dK kvs) ∧ kvs.map (·.1) = is.map Sum.inl ∧ is ≠ [] ∧ ∀ m, m ∈ is → (∀ j ∈ is, le m j) → Q (.int m) H
section
variable {X : Cx}
theorem cr_keyMin (hc : X.calm = true) : CallR X (.builtin "min") (rKeyM fun m j => m ≤ j) := fun pins s σ H vs us Q I r h => by
  obtain ⟨a, kvs, is, rfl, ha, hv, hne, q⟩ := h
  rw [Vals.ref1 r]
  obtain ⟨_, hsys, vs, rel, dof⟩ := dk_rd I.hok ha
  obtain ⟨ep, dat⟩ := dof.dictAt
  obtain ⟨ob, es, ho, _⟩ := id dat
  have hlt := Heap.lt_size ho
  have hk : vs.map (·.1) = is.map Sum.inl := (KV.keys rel).symm.trans hv
  have hlv : vs.length = is.length := by simpa using congrArg List.length hk
  have hlen : 0 < vs.length := hlv ▸ List.length_pos_iff.mpr hne
  refine call_min_walk (wpAny_pyIter_dict (knd := mixKind X.prog X.w) hsys dat ⟨_, _, _, _, _, _, _, rfl, Walks.dictKeys (knd := mixKind X.prog X.w) (A := X.A.in1) (I.ok.hd hc) s.heap.objs.size a (Nat.ne_of_lt hlt) vs ep, ⟨⟨_, Heap.get?_push_size _ rfl, rfl, rfl⟩, dat.keep fun b u e => Heap.get?_push_of_some _ e⟩, fun b hb => ?_, hlen, CmpOf.ints_lt (fun i => is.getD i 0) (key_vals hk), fun v h' tk hP hk' => ?_⟩)
  · have hb' : b = s.heap.objs.size ∨ b = a := by simpa using hb
    show b < (s.heap.push _).objs.size
    rw [Heap.size_push]
    rcases hb' with e | e
    · rw [e]; exact Nat.lt_succ_self _
    · rw [e]; exact Nat.lt_succ_of_lt hlt
  · obtain ⟨t, rfl⟩ := key_vals hk _ v hP
    obtain ⟨b1, b2⟩ := argBest_lt (fun i => is.getD i 0) (vs.length - 1)
    refine ⟨.int _, H, I.kept (t' := tk) fun b u e => hk' b u (fun hm => absurd (Heap.lt_size e) (by rw [List.mem_singleton.mp hm]; exact Nat.lt_irrefl _)) (Heap.get?_push_of_some _ e), ⟨t, rfl⟩, q _ ?_ fun j hj => ?_⟩
    · rw [list_getD (by omega)]; exact List.getElem_mem _
    · obtain ⟨i, hi, e⟩ := List.mem_iff_getElem.mp hj
      have e2 := b2 i (by omega)
      simp only [list_getD hi, e] at e2
      exact e2
theorem cr_keyMax (hc : X.calm = true) : CallR X (.builtin "max") (rKeyM fun m j => j ≤ m) := fun pins s σ H vs us Q I r h => by
  obtain ⟨a, kvs, is, rfl, ha, hv, hne, q⟩ := h
  rw [Vals.ref1 r]
  obtain ⟨_, hsys, vs, rel, dof⟩ := dk_rd I.hok ha
  obtain ⟨ep, dat⟩ := dof.dictAt
  obtain ⟨ob, es, ho, _⟩ := id dat
  have hlt := Heap.lt_size ho
  have hk : vs.map (·.1) = is.map Sum.inl := (KV.keys rel).symm.trans hv
  have hlv : vs.length = is.length := by simpa using congrArg List.length hk
  have hlen : 0 < vs.length := hlv ▸ List.length_pos_iff.mpr hne
  refine call_max_walk (wpAny_pyIter_dict (knd := mixKind X.prog X.w) hsys dat ⟨_, _, _, _, _, _, _, rfl, Walks.dictKeys (knd := mixKind X.prog X.w) (A := X.A.in1) (I.ok.hd hc) s.heap.objs.size a (Nat.ne_of_lt hlt) vs ep, ⟨⟨_, Heap.get?_push_size _ rfl, rfl, rfl⟩, dat.keep fun b u e => Heap.get?_push_of_some _ e⟩, fun b hb => ?_, hlen, CmpOf.ints_gt (fun i => is.getD i 0) (key_vals hk), fun v h' tk hP hk' => ?_⟩)
  · have hb' : b = s.heap.objs.size ∨ b = a := by simpa using hb
    show b < (s.heap.push _).objs.size
    rw [Heap.size_push]
    rcases hb' with e | e
    · rw [e]; exact Nat.lt_succ_self _
    · rw [e]; exact Nat.lt_succ_of_lt hlt
  · obtain ⟨t, rfl⟩ := key_vals hk _ v hP
    obtain ⟨b1, b2⟩ := argBest_gt (fun i => is.getD i 0) (vs.length - 1)
    refine ⟨.int _, H, I.kept (t' := tk) fun b u e => hk' b u (fun hm => absurd (Heap.lt_size e) (by rw [List.mem_singleton.mp hm]; exact Nat.lt_irrefl _)) (Heap.get?_push_of_some _ e), ⟨t, rfl⟩, q _ ?_ fun j hj => ?_⟩
    · rw [list_getD (by omega)]; exact List.getElem_mem _
    · obtain ⟨i, hi, e⟩ := List.mem_iff_getElem.mp hj
      have e2 := b2 i (by omega)
      simp only [list_getD hi, e] at e2
      exact e2
end
section
variable {K : PySem.W.Frag}
def keysI (kvs : List (D × D)) : Option (List Int) := ints? (kvs.map (·.1))
def gKeyM (m : List Int → Option Int) (g : List D → Option D) (ds : List D) : Option D := match ds with
  | [.dct _ false kvs] => (keysI kvs).bind fun is => (m is).map .int
  | _ => g ds
theorem keys_inl0 : ∀ {ws : List (Key × V)} {is : List Int}, (ws.map fun p => kD p.1) = is.map D.int → ws.map (·.1) = is.map Sum.inl
  | [], [], _ => rfl
  | [], _ :: _, h => by cases h
  | _ :: _, [], h => by cases h
  | (k, v) :: r, i :: is, h => by
    rw [List.map_cons, List.map_cons] at h
    injection h with h1 h2
    have ih := keys_inl0 h2
    cases k with
    | inl j => cases h1; rw [List.map_cons, List.map_cons, ih]
    | inr s => cases h1
theorem cs_keyM {le : Int → Int → Prop} {m : List Int → Option Int} {r : List V → Hp → VK → Prop} {g : List D → Option D} (hm : ∀ is x, m is = some x → x ∈ is ∧ ∀ j ∈ is, le x j) (hu : ∀ is x y, m is = some x → y ∈ is → (∀ j ∈ is, le y j) → y = x) (hs : ClS K r g) :
    ClS K (fun xs H Q => r xs H Q ∨ rKeyM le xs H Q) (gKeyM m g) := fun Z H ds vs F1 d Q rs hg q => by
  unfold gKeyM at hg
  split at hg
  · rename_i o kvs
    obtain ⟨is, h1, hg⟩ := Option.bind_eq_some_iff.mp hg
    obtain ⟨x, h2, rfl⟩ := Option.map_eq_some_iff.mp hg
    obtain ⟨v, rfl, rv⟩ := rs.one_inv
    obtain ⟨a, ws, G, rfl, hr, dr, _⟩ := rv.dct_rd
    have hk : ws.map (·.1) = is.map Sum.inl := keys_inl0 (by rw [← dr.ks]; exact ints?_of h1)
    refine .inr ⟨a, ws, is, rfl, hr, hk, fun e => ?_, fun y hy hle => ?_⟩
    · subst e
      have := (hm _ _ h2).1
      cases this
    · rw [hu is x y h2 hy hle]
      exact q _ H [] (Keep.refl _ _) (.int _) List.nodup_nil fun _ h => (by cases h)
  · exact .inl (hs Z H ds vs F1 d Q rs hg q)
theorem minI_ok (is : List Int) (x : Int) (h : minI is = some x) : x ∈ is ∧ ∀ j ∈ is, x ≤ j := by
  cases is with
  | nil => cases h
  | cons n r => cases h; exact foldl_min r n
theorem maxI_ok (is : List Int) (x : Int) (h : maxI is = some x) : x ∈ is ∧ ∀ j ∈ is, j ≤ x := by
  cases is with
  | nil => cases h
  | cons n r => cases h; exact foldl_max r n
def gMinA := gKeyM minI gMin
def gMaxA := gKeyM maxI gMax
theorem cs_minA : ClS K (fun xs H Q => rMinV K xs H Q ∨ rKeyM (fun m j => m ≤ j) xs H Q) gMinA :=
  cs_keyM minI_ok (fun is x y h hy hl => Int.le_antisymm (hl x (minI_ok is x h).1) ((minI_ok is x h).2 y hy)) cs_min
theorem cs_maxA : ClS K (fun xs H Q => rMaxV K xs H Q ∨ rKeyM (fun m j => j ≤ m) xs H Q) gMaxA :=
  cs_keyM maxI_ok (fun is x y h hy hl => Int.le_antisymm ((maxI_ok is x h).2 y hy) (hl x (maxI_ok is x h).1)) cs_max
end
theorem call_minA {X : Cx} (hc : X.calm = true) : CallR X (.builtin "min") (fun xs H Q => rMinV X.K xs H Q ∨ rKeyM (fun m j => m ≤ j) xs H Q) := CallR.or (call_minV hc) (cr_keyMin hc)
theorem call_maxA {X : Cx} (hc : X.calm = true) : CallR X (.builtin "max") (fun xs H Q => rMaxV X.K xs H Q ∨ rKeyM (fun m j => j ≤ m) xs H Q) := CallR.or (call_maxV hc) (cr_keyMax hc)
end Vl

namespace Vl
open PySem PySem.Spec PyProof.Rows L2

/-! ### range(a, b, -1) -/
def rgDown (i : Int) (n : Nat) : List D := (List.range n).map fun k => .int (i - (k : Nat))
theorem rgDown_length (i : Int) (n : Nat) : (rgDown i n).length = n := by unfold rgDown; rw [List.length_map, List.length_range]
theorem rgDown_get {i : Int} {n k : Nat} {d : D} (h : (rgDown i n)[k]? = some d) : d = .int (i - (k : Nat)) := by
  unfold rgDown at h
  rw [List.getElem?_map] at h
  obtain ⟨j, hj, rfl⟩ := Option.map_eq_some_iff.mp h
  have hk : k < n := by simpa using (List.getElem?_eq_some_iff.mp hj).1
  rw [List.getElem?_range hk] at hj
  cases hj
  rfl
def downOf (ds : List D) : Option (Int × Nat) := match ds with
  | [.int i, .int j, .int (-1)] => if (okR i && okR j) = true then some (i, (i - j).toNat) else none
  | _ => none
def iRg3 (fr : M (List D)) : M (List D) := fun ρ => (fr ρ).bind fun p => (downOf p.1).bind fun q => some (rgDown q.1 q.2, p.2)
section
variable {X : Cx} {T T1 O O1 W : List Nat} {x x1 : Bool} {a b c e tg : Expr} {f : M D} {fr : M (List D)} {p pos p2 pos2 : Pos}
theorem Rs.ints3 {K : PySem.W.Frag} {Z : Addr → Prop} {H : Hp} {i j k : Int} {vs : List V} {F : List Addr} (rs : Rs K Z H [.int i, .int j, .int k] vs F) : vs = [.int i, .int j, .int k] := by
  obtain ⟨v, ws, F1, F2, rfl, rfl, r, rs⟩ := rs.uncons
  rw [r.int_inv, rs.ints2]
theorem downOf_some {ds : List D} {q : Int × Nat} (h : downOf ds = some q) : ∃ j : Int, ds = [.int q.1, .int j, .int (-1)] ∧ q.2 = (q.1 - j).toNat ∧ -1000000000 ≤ q.1 ∧ q.1 ≤ 1000000000 ∧ -1000000000 ≤ j ∧ j ≤ 1000000000 := by
  unfold downOf at h
  split at h
  · rename_i i j
    split at h
    · rename_i ho
      cases h
      rw [Bool.and_eq_true] at ho
      obtain ⟨h1, h2⟩ := okR_of ho.1
      obtain ⟨h3, h4⟩ := okR_of ho.2
      exact ⟨j, rfl, rfl, h1, h2, h3, h4⟩
    · cases h
  · cases h
theorem piv_range3 (hg : Gl X "range") (hm : X.mg "range" = none) (ha : PAV X T O x [a, b, c] fr)
    (hs : starEach [a, b, c] X.env = (false, eval a X.env) :: starEach [b, c] X.env := by rfl) (hpl : (backTo pos (starEach [b, c] X.env)).any (·.1) = false := by rfl) : PIV X T [] tg (.Call (.Name "range" p) [a, b, c] [] pos) (iRg3 fr) := by
  refine PI.imp (pi_range3 hg hm ha hs hpl) fun σ H Rk h => ?_
  obtain ⟨Z, ρ, Fs, items, ρ', rel, hf, q⟩ := h
  unfold iRg3 at hf
  obtain ⟨⟨ds, ρ1⟩, h1, hf⟩ := Option.bind_eq_some_iff.mp hf
  obtain ⟨⟨i, n⟩, h2, hf⟩ := Option.bind_eq_some_iff.mp hf
  cases hf
  obtain ⟨j, hds, hnn, b1, b2, b3, b4⟩ := downOf_some h2
  simp only at hds b1 b2 hnn
  subst hnn
  subst hds
  refine ⟨Z, ρ, Fs, _, _, rel, h1, fun vs H' Z' Fs' F rel' f' w c => ?_⟩
  refine ⟨i, j, -1, (i - j).toNat, w.r.ints3, RgC.neg (by omega) (by omega) (by omega) (by omega), ?_⟩
  have wk := walk_rangeC (lo := i) (c := -1) (n := (i - j).toNat)
  have st : Stay X.K Z' H' [] (fun _ => True) (YFn fun k => .int (i + (k : Nat) * -1)) (rgDown i (i - j).toNat) := fun M Z2 H2 k hA hZ zz => by
    refine ⟨trivial, fun m v h d hy hd => ?_⟩
    obtain ⟨rfl, rfl⟩ := hy
    rw [rgDown_get hd]
    refine ⟨Keep.refl _ _, ?_⟩
    show R X.K Z2 h (.int (i - (m : Int))) (.int (i + (m : Int) * -1)) []
    rw [show i + (m : Int) * -1 = i - (m : Int) by omega]
    exact .int _
  exact q _ H' Z' Fs' [] _ _ rel' f' (by rw [rgDown_length]; exact wk) (fun _ _ h => (by cases h)) st
/-- tuple(range(a, b, -1)) -/
def tTupR3 (ta : TA) : TE := fun σ H Q => ta σ H fun vs H1 => ∃ (i j c : Int) (n : Nat), vs = [.int i, .int j, .int c] ∧ RgC i j c n ∧ n ≤ 2 ^ 24 ∧ ∀ q, H1 q = none → Q (.ref q) (upd H1 q (.tup ((List.range n).map fun k => V.int (i + (k : Nat) * c))))
theorem pe_tupR3 {ta : TA} (hc : X.calm = true) (hg : Gl X "tuple") (hm : X.mg "tuple" = none) (hg2 : Gl X "range") (hm2 : X.mg "range" = none) (ha : PA X [a, b, c] ta)
    (hs : starEach [a, b, c] X.env = (false, eval a X.env) :: starEach [b, c] X.env := by rfl) (hpl : (backTo pos2 (starEach [b, c] X.env)).any (·.1) = false := by rfl)
    (na : starEach [.Call (.Name "range" p2) [a, b, c] [] pos2] X.env = (false, eval (.Call (.Name "range" p2) [a, b, c] [] pos2) X.env) :: starEach [] X.env := by rfl) : PE X (.Call (.Name "tuple" p) [.Call (.Name "range" p2) [a, b, c] [] pos2] [] pos) (tTupR3 ta) := by
  refine ⟨fun pins s σ H Q I h => ?_⟩
  refine Call_ (ld_blt I hg hm boot_tuple (PyProof.Rows.callWith_type1 (args_cons (Call_ (ld_blt I hg2 hm2 boot_range (PyProof.Rows.callWith_type1 (thn (ha.run pos2 pins s σ H _ I h) fun us s1 ⟨vs, H1, I1, r1, q1⟩ => ?_) hs hpl))) na) na))
  obtain ⟨i, j, k, n, e, ⟨c0, c1, c2, c3⟩, hn, q⟩ := q1
  subst e
  obtain ⟨u, us, rfl, ⟨t, rfl⟩, rr⟩ : ∃ u r, us = u :: r ∧ RelV (V.int i) u ∧ Vals [V.int j, V.int k] r := by cases r1 with | cons h t => exact ⟨_, _, rfl, h, t⟩
  obtain ⟨u, v, rfl, ⟨t', rfl⟩, ⟨t'', rfl⟩⟩ := rr.two
  refine call_range_3 c0 (args_nil ?_) (.inl (PyProof.noPylong_small c1))
  have I2 : Inv X pins σ H1 { s1 with heap := s1.heap.push { cls := .type "range", data := .fields #[.int i t, .int j t', .int k t''] } } := I1.kept (t' := s1.toks) fun b o e => Heap.get?_push_of_some _ e
  refine call_tuple_range (n := n) (I2.ok.hd hc) (IsRange.new ..) c2 c3 hn fun h' tk acc hk hi => ?_
  have I3 : Inv X pins σ H1 { s1 with heap := h', toks := tk } := I2.kept hk
  have el : acc.toList.length = n := by rw [Array.length_toList]; exact hi.1
  have hv : Vals ((List.range n).map fun k' => V.int (i + (k' : Nat) * k)) acc.toList := by
    rw [← el]
    refine vals_of_get acc.toList _ fun m u hm => ?_
    obtain ⟨z, e⟩ := hi.2 m u (by rw [← hm, Array.getElem?_toList])
    exact ⟨z, e⟩
  refine ⟨.ref h'.objs.size, upd H1 h'.objs.size (.tup _), I3.laid (t' := tk) (fun c o e => Heap.get?_push_of_some _ e) (Nat.le_refl _) (show ObjOk X.prog X.w _ _ _ (.tup ((List.range n).map fun k' => V.int (i + (k' : Nat) * k))) from ⟨?_, acc.toList, hv, ?_⟩), rfl, q _ (I3.hok.fresh (Nat.le_refl _))⟩
  · rw [List.length_map, List.length_range, sizeLine_eq]; omega
  · rw [Array.toArray_toList]; exact IsTup.new _ _
def fTupRg3 (fr : M (List D)) : M D := fun ρ => (fr ρ).bind fun p => (downOf p.1).bind fun q => if decide (q.2 ≤ 100000) = true then some (.tup (rgDown q.1 q.2), p.2) else none
theorem rs_down {K : PySem.W.Frag} {Z : Addr → Prop} {H : Hp} (i : Int) (n : Nat) : Rs K Z H (rgDown i n) ((List.range n).map fun k => V.int (i + (k : Nat) * -1)) [] := by
  unfold rgDown
  induction (List.range n) with
  | nil => exact .nil
  | cons k r ih =>
    refine .cons0 ?_ ih
    show R K Z H (.int (i - (k : Int))) (.int (i + (k : Int) * -1)) []
    rw [show i + (k : Int) * -1 = i - (k : Int) by omega]
    exact .int _
theorem pev_tupRg3 (hc : X.calm = true) (hg : Gl X "tuple") (hm : X.mg "tuple" = none) (hg2 : Gl X "range") (hm2 : X.mg "range" = none) (ha : PAV X T O x [a, b, c] fr)
    (hs : starEach [a, b, c] X.env = (false, eval a X.env) :: starEach [b, c] X.env := by rfl) (hpl : (backTo pos2 (starEach [b, c] X.env)).any (·.1) = false := by rfl)
    (na : starEach [.Call (.Name "range" p2) [a, b, c] [] pos2] X.env = (false, eval (.Call (.Name "range" p2) [a, b, c] [] pos2) X.env) :: starEach [] X.env := by rfl) : PEV X T [] true (.Call (.Name "tuple" p) [.Call (.Name "range" p2) [a, b, c] [] pos2] [] pos) (fTupRg3 fr) := by
  refine PE.imp (pe_tupR3 hc hg hm hg2 hm2 ha hs hpl na) fun σ H Q h => ?_
  obtain ⟨Z, ρ, Fs, d, ρ', rel, hf, q⟩ := h
  unfold fTupRg3 at hf
  obtain ⟨⟨ds, ρ1⟩, h1, hf⟩ := Option.bind_eq_some_iff.mp hf
  obtain ⟨⟨i, n⟩, h2, hf⟩ := Option.bind_eq_some_iff.mp hf
  split at hf
  · rename_i hz
    cases hf
    obtain ⟨j, hds, hnn, b1, b2, b3, b4⟩ := downOf_some h2
    simp only at hds b1 b2 hnn
    subst hnn
    subst hds
    refine ⟨Z, ρ, Fs, _, _, rel, h1, fun vs H' Z' Fs' F rel' f' w c => ?_⟩
    have hz := of_decide_eq_true hz
    refine ⟨i, j, -1, (i - j).toNat, w.r.ints3, RgC.neg (by omega) (by omega) (by omega) (by omega), by simp only at hz; omega, fun p hp => ?_⟩
    refine new_tup hp (rs_down (K := X.K) (Z := Z') i _) fun v H2 F k r nd nw => ?_
    have fz := f'.trans (Frm.pureT [] k)
    rw [List.append_nil] at fz
    exact q v H2 Z' Fs' F (rel'.keep0 k) fz (Val.new rel' r nd nw) (Cf.new f'.keep nw)
  · cases hf

/-! ### reversed -/
def iRev (f : M D) : M (List D) := fun ρ => (f ρ).bind fun p => (itemsOf p.1).bind fun l => some (l.reverse, p.2)
theorem walk_revT {K : PySem.W.Frag} {a : Addr} {xs : List V} : Walk (RT.ItvT K a xs.length) xs.length (fun H => SqT K H a xs) (fun i H x H' => H' = H ∧ xs[xs.length - 1 - i]? = some x) :=
  ⟨fun i _ hi q => ⟨hi, xs, xs[xs.length - 1 - i]'(by omega), q, by simp [show xs.length - 1 - i < xs.length by omega]⟩, fun _ _ => Nat.le_refl _, fun _ _ _ _ _ q y => ⟨y.1, y.2 xs q⟩⟩
theorem stay_rev {K : PySem.W.Frag} {Z : Addr → Prop} {H : Hp} {A : List Addr} {G : Hp → Prop} {l : List D} {xs : List V} (hl : l.length = xs.length)
    (st : ∀ (M : Addr → Prop) (Z2 : Addr → Prop) (H2 : Hp), Keep M H H2 → (∀ a ∈ A, ¬ M a) → (∀ a, Z a → ¬ M a) → (∀ a, Z a → Z2 a) → G H2 ∧ Rs K Z2 H2 l xs []) :
    Stay K Z H A G (fun i H x H' => H' = H ∧ xs[xs.length - 1 - i]? = some x) l.reverse := fun M Z2 H2 k hA hZ zz => by
  obtain ⟨g, rs⟩ := st M Z2 H2 k hA hZ zz
  refine ⟨g, fun i v h d hy hi => ?_⟩
  obtain ⟨rfl, hx⟩ := hy
  have hlt : i < l.length := by
    have := (List.getElem?_eq_some_iff.mp hi).1
    simpa using this
  rw [List.getElem?_reverse hlt, hl] at hi
  exact ⟨Keep.refl _ _, rs.at0 hi hx⟩
theorem piv_rev (hg : Gl X "reversed") (hm : X.mg "reversed" = none) (he : PEV X T O x e f) (hs : starEach [e] X.env = (false, eval e X.env) :: starEach [] X.env := by rfl) : PIV X T O tg (.Call (.Name "reversed" p) [e] [] pos) (iRev f) := by
  refine PI.imp (RT.pi_revA hg hm he hs) fun σ H Rk h => ?_
  obtain ⟨Z, ρ, Fs, items, ρ', rel, hf, q⟩ := h
  unfold iRev at hf
  obtain ⟨⟨d, ρ1⟩, h1, hf⟩ := Option.bind_eq_some_iff.mp hf
  obtain ⟨l, h2, hf⟩ := Option.bind_eq_some_iff.mp hf
  cases hf
  refine ⟨Z, ρ, Fs, d, _, rel, h1, fun v H' Z' Fs' F rel' f' w c => ?_⟩
  cases d <;> simp only [itemsOf] at h2 <;> try (cases h2)
  · split at h2
    · rename_i hn
      cases h2
      obtain ⟨a, vs, e, hq, hl, st⟩ := w.r.tup_keep (Z' := Z') (H' := H') hn
      refine ⟨a, vs, e, .inr ⟨hq, ?_⟩⟩
      have wk := walk_revT (K := X.K) (a := a) (xs := vs)
      have e2 : (l.reverse).length = vs.length := by rw [List.length_reverse]; exact hl
      refine q _ H' Z' Fs' F _ _ rel' f' (by rw [e2]; exact wk) w.ori (stay_rev hl fun M Z2 H2 k _ hZ zz => st M Z2 H2 k hZ zz)
    · cases h2
  · split at h2
    · rename_i hn
      cases h2
      obtain ⟨a, vs, e, hq, hl, st⟩ := w.r.lst_keep (Z' := Z') (H' := H') hn
      refine ⟨a, vs, e, .inl ⟨hq, ?_⟩⟩
      have wk := walk_rev (K := X.K) (a := a) (xs := vs)
      have e2 : (l.reverse).length = vs.length := by rw [List.length_reverse]; exact hl
      refine q _ H' Z' Fs' F _ _ rel' f' (by rw [e2]; exact wk) w.ori (stay_rev hl st)
    · cases h2
  · split at h2
    · cases h2
      obtain ⟨a, vs, e, hq, hl, st⟩ := w.r.scr_keep (Z' := Z') (H' := H')
      refine ⟨a, vs, e, .inl ⟨hq, ?_⟩⟩
      have wk := walk_rev (K := X.K) (a := a) (xs := vs)
      have e2 : (l.reverse).length = vs.length := by rw [List.length_reverse]; exact hl
      refine q _ H' Z' Fs' F _ _ rel' f' (by rw [e2]; exact wk) w.ori (stay_rev hl st)
    · cases h2
  · split at h2
    · rename_i hn
      cases h2
      obtain ⟨a, vs, e, hq, hl, st⟩ := w.r.xt_keep (Z' := Z') (H' := H') hn
      refine ⟨a, vs, e, .inr ⟨hq, ?_⟩⟩
      have wk := walk_revT (K := X.K) (a := a) (xs := vs)
      have e2 : (l.reverse).length = vs.length := by rw [List.length_reverse]; exact hl
      refine q _ H' Z' Fs' F _ _ rel' f' (by rw [e2]; exact wk) w.ori (stay_rev hl fun M Z2 H2 k _ hZ zz => st M Z2 H2 k hZ zz)
    · cases h2
end
end Vl

namespace Vl
open PySem PySem.Spec PyProof.Rows L2

/-! ### {k: v, ..} -/
def fPairs : List (M D × M D) → M (List (D × D))
  | [] => fun ρ => some ([], ρ)
  | (fk, fv) :: r => fun ρ => (fk ρ).bind fun p => (fv p.2).bind fun q => (fPairs r q.2).bind fun s => if (p.1.noOwn && q.1.noOwn && (keyOf p.1).isSome) = true then some ((p.1, q.1) :: s.1, s.2) else none
def fDisp (ps : List (M D × M D)) : M D := fun ρ => (fPairs ps ρ).bind fun p => some (.dct true false (p.1.foldl (fun acc kv => putD acc kv.1 kv.2) []), p.2)
/-- rules for the pairs -/
structure PPV (X : Cx) (pos : Pos) (T : List Nat) (keys : List (Option Expr)) (values : List Expr) (ps : List (M D × M D)) : Prop where
  ok : ∃ trs, PPs X pos keys values trs ∧ ∀ (Q : List (V × V) → Hp → Prop) (σ : L2.St) (Z : Addr → Prop) (ρ : Env) (Fs : Ft) (H : Hp) (kvs : List (D × D)) (ρ' : Env), Rel X.K Z ρ σ H Fs → fPairs ps ρ = some (kvs, ρ') →
    (∀ (ws : List (Key × V)) (H' : Hp) (Z' : Addr → Prop) (Fs' : Ft), Rel X.K Z' ρ' σ H' Fs' → Frm T Z ρ Fs H Z' ρ' Fs' H' → DRel X.K Z' H' kD kvs ws [] → Q (ws.map fun kv => (kV kv.1, kv.2)) H') → tPairs trs σ H Q
section
variable {X : Cx} {T1 T2 T3 O1 O2 : List Nat} {x1 x2 : Bool} {k v : Expr} {ks : List (Option Expr)} {vs : List Expr} {fk fv : M D} {ps : List (M D × M D)} {pos : Pos}
theorem ppv_nil : PPV X pos [] [] [] [] := ⟨[], pps_nil, fun Q σ Z ρ Fs H kvs ρ' rel hf q => by
  cases hf
  exact q [] H Z Fs rel (Frm.refl _) ⟨rfl, .nil⟩⟩
theorem ppv_cons (hk : PEV X T1 O1 x1 k fk) (hv : PEV X T2 O2 x2 v fv) (hr : PPV X pos T3 ks vs ps) : PPV X pos (T1 ++ (T2 ++ T3)) (some k :: ks) (v :: vs) ((fk, fv) :: ps) := by
  obtain ⟨trs, h1, h2⟩ := hr.ok
  refine ⟨_, pps_cons hk hv h1, fun Q σ Z ρ Fs H kvs ρ' rel hf q => ?_⟩
  unfold fPairs at hf
  obtain ⟨⟨dk, ρ1⟩, e1, hf⟩ := Option.bind_eq_some_iff.mp hf
  obtain ⟨⟨dv, ρ2⟩, e2, hf⟩ := Option.bind_eq_some_iff.mp hf
  obtain ⟨⟨rest, ρ3⟩, e3, hf⟩ := Option.bind_eq_some_iff.mp hf
  split at hf
  · rename_i hn
    cases hf
    simp only [Bool.and_eq_true] at hn
    obtain ⟨⟨n1, n2⟩, n3⟩ := hn
    obtain ⟨kk, hkk⟩ := Option.isSome_iff_exists.mp n3
    refine ⟨Z, ρ, Fs, dk, ρ1, rel, e1, fun w1 H1 Z1 Fs1 F1 rel1 f1 v1 c1 => ?_⟩
    refine ⟨Z1, ρ1, Fs1, dv, ρ2, rel1, e2, fun w2 H2 Z2 Fs2 F2 rel2 f2 v2 c2 => ?_⟩
    refine h2 _ σ Z2 ρ2 Fs2 H2 rest _ rel2 e3 fun ws H3 Z3 Fs3 rel3 f3 dr => ?_
    obtain ⟨rfl, rfl⟩ := v1.r.key hkk
    have e := v2.r.no n2
    have r2 := v2.r
    rw [e] at r2
    have r3 := r2.keep f3.keep f3.zz (fun a z ⟨j, hj, ha⟩ => rel2.nz j a ha z) fun _ h => (by cases h)
    exact q ((kk, w2) :: ws) H3 Z3 Fs3 rel3 (f1.trans (f2.trans f3)) (DRel.cons0 rfl r3 dr)
  · cases hf
theorem DRel.merge {K : PySem.W.Frag} {Z : Addr → Prop} {H : Hp} : ∀ {more : List (D × D)} {rs : List (Key × V)} {kvs : List (D × D)} {ws : List (Key × V)}, DRel K Z H kD more rs [] → DRel K Z H kD kvs ws [] → DRel K Z H kD (more.foldl (fun acc kv => putD acc kv.1 kv.2) kvs) (mergeK ws rs) []
  | [], rs, kvs, ws, r, r0 => by rw [r.nil_]; exact r0
  | p :: more, rs, kvs, ws, r, r0 => by
    obtain ⟨q, qs, F1, F2, rfl, k1, e0, r1, r2⟩ := r.uncons
    obtain ⟨e1, e2⟩ := app_eq_nil e0.symm
    subst e1 e2
    have e : DRel K Z H kD (putD kvs p.1 p.2) (putK ws q.1 q.2) [] := by rw [k1]; exact r0.put kEq_kD r1
    have ih := DRel.merge r2 e
    exact ih
theorem pev_disp {keys : List (Option Expr)} {values : List Expr} (h : PPV X pos T1 keys values ps) (hall : keys.all (·.isSome) = true := by rfl) (hl : keys.length = values.length := by rfl) (h0 : keys ≠ [] := by simp) (h15 : keys.length ≤ 15 := by decide) (hps : ps.length ≤ 15 := by decide) :
    PEV X T1 [] true (.Dict keys values pos) (fDisp ps) := by
  obtain ⟨trs, h1, h2⟩ := h.ok
  refine PE.imp (pe_disp h1 hall hl h0 h15) fun σ H Q h => ?_
  obtain ⟨Z, ρ, Fs, d, ρ', rel, hf, q⟩ := h
  unfold fDisp at hf
  obtain ⟨⟨kvs, ρ1⟩, e1, hf⟩ := Option.bind_eq_some_iff.mp hf
  cases hf
  intro p hp
  have k0 : Keep M0 H (upd H p (.dK [])) := Keep.new hp
  have rel0 := rel.keep0 k0
  refine h2 _ σ Z ρ Fs _ kvs _ rel0 e1 fun ws H' Z' Fs' rel' f' dr => ?_
  have np : ∀ j, p ∉ Fs j := fun j h => rel.ft j p h hp
  have hpp : H' p = some (.dK []) := f'.keep.out p _ upd_same fun ⟨j, _, h⟩ => np j h
  have hlen : ws.length ≤ 15 := by
    have e := congrArg List.length dr.ks
    rw [List.length_map, List.length_map] at e
    have : ∀ (ps : List (M D × M D)) (ρ : Env) (kvs : List (D × D)) (ρ' : Env), fPairs ps ρ = some (kvs, ρ') → kvs.length = ps.length := by
      intro ps
      induction ps with
      | nil => intro ρ kvs ρ' h; cases h; rfl
      | cons a r ih =>
        intro ρ kvs ρ' h
        unfold fPairs at h
        obtain ⟨_, _, h⟩ := Option.bind_eq_some_iff.mp h
        obtain ⟨_, _, h⟩ := Option.bind_eq_some_iff.mp h
        obtain ⟨⟨rest, ρ3⟩, e3, h⟩ := Option.bind_eq_some_iff.mp h
        split at h
        · cases h
          rw [List.length_cons, List.length_cons, ih _ _ _ e3]
        · cases h
    rw [← e, this _ _ _ _ e1]
    exact hps
  refine ⟨hpp, ws, rfl, hlen, ?_⟩
  -- the new dict is nobody's yet
  have nz : ¬ Z' p := fun z => by
    rcases f'.c3 p z with z | ⟨j, _, z⟩ | z
    · exact rel.zt p z hp
    · exact np j z
    · rw [upd_same] at z; cases z
  have nF : ∀ j, p ∉ Fs' j := fun j h => by
    by_cases hj : j ∈ T1
    · rcases f'.c1 j hj p h with ⟨m, _, z⟩ | z
      · exact np m z
      · rw [upd_same] at z; cases z
    · rw [(f'.sub j hj).1] at h; exact np j h
  have kw : Keep (fun a => a = p) H' (upd H' p (.dK (mergeK [] ws))) := Keep.wr hpp trivial
  have rel2 : Rel X.K Z' ρ1 σ (upd H' p (.dK (mergeK [] ws))) Fs' := ⟨fun i d e => let ⟨v, h1, h2⟩ := rel'.at_ i d e; ⟨v, h1, h2.keep kw (fun _ h => h) (fun a z e => nz (by rw [← e]; exact z)) fun a ha e => nF i (by rw [← e]; exact ha)⟩,
    rel'.nd, rel'.dj, rel'.nz, fun a h => kw.dom a (rel'.zt a h), fun i a h => kw.dom a (rel'.ft i a h), rel'.len⟩
  have dr2 := DRel.merge dr (⟨rfl, .nil⟩ : DRel X.K Z' H' kD [] [] [])
  have fK : Keep (fun a => ∃ j ∈ T1, a ∈ Fs j) H (upd H' p (.dK (mergeK [] ws))) := (k0.trans f'.keep (M := fun a => ∃ j ∈ T1, a ∈ Fs j) (fun _ h => h.elim) fun a h => .inl h).trans kw (fun _ h => h) fun a e => .inr (by rw [e]; exact hp)
  have nn : ∀ {a : Addr}, upd H p (.dK []) a = none → H a = none := fun {a} h => by
    by_cases e : a = p
    · rw [e]; exact hp
    · rwa [upd_ne e] at h
  exact q (.ref p) _ Z' Fs' [p] rel2 ⟨f'.sub, fK, fun j hj a ha => (f'.c1 j hj a ha).imp id nn, fun a h => (f'.c3 a h).imp id fun h => h.imp id nn, f'.zz, f'.len⟩
    ⟨DRel.at upd_same ⟨dr2.ks, dr2.rs.keep kw (fun _ h => h) (fun a z e => nz (by rw [← e]; exact z)) fun _ h => (by cases h)⟩, fun j a h1 h2 => absurd h2 (by rw [List.mem_singleton.mp h1]; exact nF j), fun _ => ⟨by simp, fun a ha => by rw [List.mem_singleton.mp ha]; exact nz⟩⟩
    fun _ a ha => .inr (by rw [List.mem_singleton.mp ha]; exact hp)
end
end Vl

namespace Vl
open PySem PySem.Spec PyProof.Rows L2
section
variable {X : Cx} {T O W Wg Tg Wb Tb Tt Te : List Nat} {x : Bool} {tg iter elt e : Expr} {ifs : List Expr} {pos npos : Pos} {y : Str} {g : D → Env → Option Env} {fi : M (List D)} {ft : M Bool} {fe : M D}
theorem pev_lcV {scope : Scope} {own : List (Str × Nat)} (vs : List Nat) (hc : X.calm = true) (hN : X.N.Nodup) (hi : PIV X T O tg iter fi) (ok : BlkOk X.N X.env.scope scope own)
    (hg : ∀ (s : Shared) (H : Hp) (C : Addr) (cl : List (Str × Addr)) (fp : List Addr), PGV (X.blk s H scope (compEnvC scope cl C X.env) fp) Wg Tg tg g) (ht : ∀ (s : Shared) (H : Hp) (C : Addr) (cl : List (Str × Addr)) (fp : List Addr), PTsV (X.blk s H scope (compEnvC scope cl C X.env) fp) Tt ifs ft)
    (he : ∀ (s : Shared) (H : Hp) (C : Addr) (cl : List (Str × Addr)) (fp : List Addr), PEV (X.blk s H scope (compEnvC scope cl C X.env) fp) Te [] true elt fe) (hvs : own.map (·.2) = vs := by rfl) (hW : Wg.all (fun i => vs.contains i) = true := by rfl) (ho : O.all (fun i => !(vs ++ (Tg ++ (Tt ++ Te))).contains i) = true := by rfl)
    (hs : ∀ x, foldedSetIterable iter X.env x = pure x := by intro _; rfl) :
    PEV X (T ++ ((vs ++ (Tg ++ (Tt ++ Te))) ++ vs)) [] true (.ListComp elt [⟨tg, iter, ifs, 0⟩] scope pos) (fComp vs fi g ft fe) := by
  subst hvs
  exact pev_lc hc hN hi ok hg ht he hW ho hs
theorem pev_lcDV {scope : Scope} {own : List (Str × Nat)} (vs : List Nat) (i : Nat) (hc : X.calm = true) (hN : X.N.Nodup) (hi : PI X tg iter (tVIk X.K i)) (ok : BlkOk X.N X.env.scope scope own)
    (hg : ∀ (s : Shared) (H : Hp) (C : Addr) (cl : List (Str × Addr)) (fp : List Addr), PGV (X.blk s H scope (compEnvC scope cl C X.env) fp) Wg Tg tg g) (ht : ∀ (s : Shared) (H : Hp) (C : Addr) (cl : List (Str × Addr)) (fp : List Addr), PTsV (X.blk s H scope (compEnvC scope cl C X.env) fp) Tt ifs ft)
    (he : ∀ (s : Shared) (H : Hp) (C : Addr) (cl : List (Str × Addr)) (fp : List Addr), PEV (X.blk s H scope (compEnvC scope cl C X.env) fp) Te [] true elt fe) (hvs : own.map (·.2) = vs := by rfl) (hW : Wg.all (fun i => vs.contains i) = true := by rfl)
    (hs : ∀ x, foldedSetIterable iter X.env x = pure x := by intro _; rfl) :
    PEV X (i :: ([] ++ ((vs ++ (Tg ++ (Tt ++ Te))) ++ vs))) [] true (.ListComp elt [⟨tg, iter, ifs, 0⟩] scope pos) (fDk i (fComp vs (iKy i) g ft fe)) := by
  subst hvs
  exact pev_lcD i hc hN hi ok hg ht he hW hs
end
end Vl

namespace Vl
open PySem PySem.Spec PyProof.Rows L2

/-! ### tuple(reversed(a tuple)) -/
theorem Walks.rt {prog : Program} {w : World} {A : Around} (hh : A.handled = none) (I t : Addr) (hne : t ≠ I) (items : Array Value) (hz : items.size ≤ sizeLine) :
    Walks prog w A I [I, t] [I] items.size (fun i v => items[items.size - 1 - i]? = some v) (fun i h => i ≤ items.size ∧ RT.IsRt h I t ((items.size : Int) - 1 - (i : Int)) ∧ IsTup h t items) where
  sub := fun b hb => by simp at hb; simp [hb]
  frame := fun _ _ _ x hk => ⟨x.1, x.2.1.at fun o e => hk I (by simp) o e, by
    obtain ⟨o, ho, r⟩ := x.2.2
    exact ⟨o, hk t (by simp) o ho, r⟩⟩
  item := fun i s Q E hi x hQ => by
    obtain ⟨x1, x2, x3⟩ := x
    have e : (items.size : Int) - 1 - (i : Int) = ((items.size - 1 - i : Nat) : Int) := by omega
    rw [e] at x2
    have hx : items[items.size - 1 - i]? = some (items[items.size - 1 - i]'(by omega)) := Array.getElem?_eq_getElem (by omega)
    refine RT.next_rt_item x2 x3 hx hz fun h' hit' hs' => ?_
    have e2 : ((items.size - 1 - i : Nat) : Int) - 1 = (items.size : Int) - 1 - ((i + 1 : Nat) : Int) := by omega
    rw [e2] at hit'
    obtain ⟨o, ho, r⟩ := x3
    exact hQ _ h' _ hx ⟨hi, hit', o, (hs'.2 t hne).trans ho, r⟩ fun b o hb eo => hs'.extBut b o (fun h => hb (by simp [h])) eo
  done := fun s Q E x hQ => by
    obtain ⟨x1, x2, x3⟩ := x
    have e : (items.size : Int) - 1 - (items.size : Int) = -1 := by omega
    rw [e] at x2
    exact RT.next_rt_end hh x2 fun h' eb => hQ h' s.toks fun b o hb eo => eb b o (fun h => hb (by simp [h])) eo
  self := fun i s Q E x h => RT.iter_rt x.2.1 h
theorem rt_nolen : typeLookup (.type "reversed") "__len__" = pure none := by rw [typeLookup_type, builtinLookup_eq_fast]; kernel_rfl
theorem rt_hint : typeLookup (.type "reversed") "__length_hint__" = pure (some (.builtin "reversed.__length_hint__")) := by rw [typeLookup_type, builtinLookup_eq_fast]; kernel_rfl
section
variable {prog : Program} {w : World} {A : Around} {E : Value → Shared → Prop} {s : Shared}
theorem rt_entry_hint : entryFor table "reversed.__length_hint__" = some Builtin.«reversed.__length_hint__» := entryFor_of_tree (by kernel_rfl)
theorem rt_slot_hint : Slot "reversed" "__length_hint__" "reversed.__length_hint__" :=
  .of (owner := "reversed") (n := "__length_hint__") rt_hint (by decide +kernel) (by decide +kernel) (by decide +kernel)
    (by first | exact .inl (by decide +kernel) | exact .inr (by decide +kernel)) (by rw [isSubtype_type]; kernel_rfl)
theorem rt_args_hint (a : Value) : argsOk "reversed.__length_hint__" ⟨[a], []⟩ := by
  unfold argsOk
  rw [signature?_of (id := "reversed.__length_hint__") (n := ['_', '_', 't', 'n', 'i', 'h', '_', 'h', 't', 'g', 'n', 'e', 'l', '_', '_']) (o := ['d', 'e', 's', 'r', 'e', 'v', 'e', 'r']) (by kernel_rfl) RT.owner_rt]
  kernel_rfl
theorem rt_lenhint {it t : Addr} {items : Array Value} {Q : Bool → Shared → Prop} (hit : RT.IsRt s.heap it t ((items.size : Int) - 1)) (ht : IsTup s.heap t items) (hz : items.size ≤ sizeLine) (h : ∀ b tk, Q b { s with toks := tk }) :
    wpAny (model prog w) A (Builtin.List.listLengthHint (.ref it)) Q E s := by
  have hT : s.TypeIs (.ref it) "reversed" := hit.typeIs
  unfold Builtin.List.listLengthHint
  refine wpAny_bind (wpAny_specialOf hT rt_nolen ?_)
  show wpAny _ A (specialOf (Value.ref it) (Str.ofString "__length_hint__") >>= _) _ _ _
  refine wpAny_bind (wpAny_specialOf hT rt_hint ?_)
  generalize hid : ("reversed.__length_hint__" : String) = id0
  wp_delta
  rw [show splitId id0 = some ("reversed", "__length_hint__") from by subst hid; decide +kernel]
  subst hid
  refine wpAny_bind (wpAny_isInstance (b := true) hT (by rw [isSubtype_type]; kernel_rfl) ?_)
  rw [if_neg (by decide)]
  try dsimp only
  rw [if_neg (by decide)]
  refine wpAny_bind (wpAny_rule ?_)
  rw [rt_slot_hint.bind]
  refine wpAny_bind (wpAny_pure ?_)
  try dsimp only
  refine wpAny_bind (wpAny_attempt (wpAny_call_entry rt_slot_hint hT rt_entry_hint ?_ (rt_args_hint _)))
  have hn := line63
  obtain ⟨o, ho, hc, hd⟩ := id hit
  unfold Builtin.«reversed.__length_hint__»
  refine wpAny_bind (wpAny_of_eq (a := Value.ref it) rfl ?_)
  try dsimp only
  refine wpAny_bind (wpAny_field ho hd (x := .ref t) rfl ?_)
  show wpAny _ _ (if (Value.ref t == Value.none) = true then _ else _) _ _ s
  rw [if_neg (show ¬ ((Value.ref t == Value.none) = true) from Bool.false_ne_true)]
  try dsimp only
  refine wpAny_bind (len_tuple ht (by omega) ?_)
  refine wpAny_bind (wpAny_of_eq (a := some ((items.size : Nat) : Int)) rfl ?_)
  try dsimp only
  refine wpAny_bind (wpAny_field (s := { s with toks := _ }) ho hd (x := rawInt ((items.size : Int) - 1)) rfl ?_)
  try dsimp only
  show wpAny _ _ (if ((items.size : Nat) : Int) < ((items.size : Int) - 1) + 1 then _ else retInt (((items.size : Int) - 1) + 1)) _ _ _
  rw [if_neg (by omega)]
  refine wpAny_bind (wpAny_mkInt ?_)
  refine wpAny_pure ⟨_, rfl, ?_⟩
  try dsimp only
  have e1 : ((items.size : Int) - 1) + 1 = (items.size : Int) := by omega
  rw [e1]
  have g1 : Builtin.List.listFitsIndex ((items.size : Nat) : Int) = true := fitsIndex_of (by omega) (by omega)
  have g2 : ¬ ((items.size : Nat) : Int) < 0 := by omega
  have g3 : Builtin.List.listTooLong ((items.size : Nat) : Int).toNat = false := by rw [Int.toNat_natCast]; exact notLongL hz
  generalize ((items.size : Nat) : Int) = n at g1 g2 g3 ⊢
  generalize s.toks + 1 + 1 = tk0
  refine wpAny_bind (wpAny_of_eq (a := some n) rfl ?_)
  dsimp only
  rw [if_neg (by rw [g1]; exact Bool.false_ne_true), if_neg g2, if_neg (by rw [g3]; exact Bool.false_ne_true)]
  exact wpAny_pure (h _ _)
theorem rt_collect {it t : Addr} {items : Array Value} {Q : List Value → Shared → Prop} (hh : A.handled = none) (hit : RT.IsRt s.heap it t ((items.size : Int) - 1)) (ht : IsTup s.heap t items) (hne : t ≠ it) (hn : items.size ≤ sizeLine)
    (hQ : ∀ (h' : Heap) (tk : Nat) (acc : Array Value), (∀ b o, b ≠ it → s.heap.get? b = some o → h'.get? b = some o) → ItemsOf (fun i v => items[items.size - 1 - i]? = some v) acc items.size → Q acc.toList { s with heap := h', toks := tk }) : wpAny (model prog w) A (collect (.ref it)) Q E s := by
  have W := (Walks.rt (prog := prog) (w := w) (A := A.in1) hh it t hne items hn).toS
  have hSi : s.heap.objs.size ≠ it := by obtain ⟨o, e, _⟩ := id hit; exact Nat.ne_of_gt (Heap.lt_size e)
  have hSl : s.heap.objs.size ≠ t := by obtain ⟨o, e, _⟩ := id ht; exact Nat.ne_of_gt (Heap.lt_size e)
  have hSf : s.heap.objs.size ∉ [it, t] := by simp [hSi, hSl]
  let ob : Obj := { cls := .type "list", data := .seq ([] : List Value).toArray }
  unfold collect
  refine wpAny_bind (wpAny_runValue (codeAny_builtin F.entry_proto_collect ?_))
  rw [Around.under_plainId F.plain_proto_collect _]
  show wpAny _ A.in1 (newList [] >>= fun l' => again (.builtin "list.__iadd__" ⟨[l', .ref it], []⟩)) _ _ s
  refine wpAny_bind (wpAny_newObj_type (wpAny_pure ⟨plainId_quiet F.plain_list_iadd _, codeAny_builtin F.entry_list_iadd ?_⟩))
  rw [Around.under_plainId F.plain_list_iadd _]
  have hS : (s.heap.push ob).get? s.heap.objs.size = some ob := Heap.get?_push_size _ rfl
  have hit1 : RT.IsRt (s.heap.push ob) it t ((items.size : Int) - 1) := hit.at fun o e => Heap.get?_push_of_some _ e
  have ht1 : IsTup (s.heap.push ob) t items := by obtain ⟨o, e, r⟩ := id ht; exact ⟨o, Heap.get?_push_of_some _ e, r⟩
  have hT : ({ s with heap := s.heap.push ob } : Shared).TypeIs (.ref it) "reversed" := RT.IsRt.typeIs (s := { s with heap := s.heap.push ob }) hit1
  have h1 : Builtin.List.listSameRef (.ref s.heap.objs.size) (.ref it) = false := by simp [Builtin.List.listSameRef, hSi]
  show wpAny _ A.in1 (Builtin.List.listExtendWith (.ref s.heap.objs.size) (.ref it) (.ref s.heap.objs.size)) _ _ { s with heap := s.heap.push ob }
  unfold Builtin.List.listExtendWith
  refine wpAny_bind (wpAny_typeOf hT ?_)
  rw [if_neg (by rw [h1]; decide)]
  refine wpAny_bind (RT.iter_rt (s := { s with heap := s.heap.push ob }) hit1 ?_)
  refine wpAny_bind (wpAny_holding (rt_lenhint (s := { s with heap := s.heap.push ob }) hit1 ht1 hn fun b tk => ?_))
  have e0 : ((items.size : Nat) : Int) - 1 - ((0 : Nat) : Int) = (items.size : Int) - 1 := by omega
  cases b with
  | false =>
    rw [if_neg (by decide)]
    refine wpAny_pure ⟨plainId_quiet F.plain_extend_loop _, codeAny_extend_loopS W hn _ hSf _ items.size 0 _ _ _ rfl (Nat.zero_le _) ⟨Nat.zero_le _, by rw [e0]; exact hit1, ht1⟩ hS (ItemsOf.nil _) fun s' acc' c' hm hS' hacc => ?_⟩
    show wpAny _ A (load s.heap.objs.size >>= _) _ _ s'
    refine wpAny_bind (wpAny_load hS' (wpAny_pure ?_))
    rw [Moved.eq_with hm]
    refine hQ s'.heap s'.toks acc' (fun b o hb e => hm.heap b o (fun hmem => ?_) (Heap.get?_push_of_some _ e)) hacc
    rcases List.mem_cons.mp hmem with e' | hmem
    · exact absurd (Heap.lt_size e) (by rw [e']; exact Nat.lt_irrefl _)
    · exact hb (List.mem_singleton.mp hmem)
  | true =>
    rw [if_pos (by rfl)]
    refine wpAny_bind (wpAny_rule (wpAny_bind ?_))
    show wpAny _ A.in1 (updateSeq s.heap.objs.size (·.push .none) >>= fun _ => updateSeq s.heap.objs.size (·.pop)) _ _ _
    refine wpAny_bind (wpAny_updateSeq hS rfl ?_)
    have hS₂ := Heap.get?_update_self (Obj.mapSeq (·.push Value.none)) hS rfl
    refine wpAny_updateSeq hS₂ rfl ?_
    have hS₃ := Heap.get?_update_self (Obj.mapSeq (·.pop)) hS₂ rfl
    have oth : ∀ b o, b ≠ s.heap.objs.size → (s.heap.push ob).get? b = some o → (((s.heap.push ob).update s.heap.objs.size (Obj.mapSeq (·.push Value.none))).update s.heap.objs.size (Obj.mapSeq (·.pop))).get? b = some o :=
      fun b o hb e => (Heap.get?_update_other _ _ (Ne.symm hb)).trans ((Heap.get?_update_other _ _ (Ne.symm hb)).trans e)
    have hit2 := hit1.at fun o e => oth it o (Ne.symm hSi) e
    obtain ⟨ot, hot, rt⟩ := ht1
    refine wpAny_pure ⟨plainId_quiet F.plain_extend_loop _, codeAny_extend_loopS W hn _ hSf _ items.size 0 _ _ _ rfl (Nat.zero_le _) ⟨Nat.zero_le _, by rw [e0]; exact hit2, ot, oth t ot (Ne.symm hSl) hot, rt⟩ hS₃ (ItemsOf.nil _) fun s' acc' c' hm hS' hacc => ?_⟩
    show wpAny _ A (load s.heap.objs.size >>= _) _ _ s'
    refine wpAny_bind (wpAny_load hS' (wpAny_pure ?_))
    rw [Moved.eq_with hm]
    refine hQ s'.heap s'.toks acc' (fun b o hb e => hm.heap b o (fun hmem => ?_) (oth b o (Nat.ne_of_lt (Heap.lt_size e)) (Heap.get?_push_of_some _ e))) hacc
    rcases List.mem_cons.mp hmem with e' | hmem
    · exact absurd (Heap.lt_size e) (by rw [e']; exact Nat.lt_irrefl _)
    · exact hb (List.mem_singleton.mp hmem)
theorem rt_code {it t : Addr} {items : Array Value} {Q₁ : Value → Shared → Prop} (hh : A.handled = none) (hit : RT.IsRt s.heap it t ((items.size : Int) - 1)) (ht : IsTup s.heap t items) (hne : t ≠ it) (hn : items.size ≤ sizeLine)
    (h : ∀ (h' : Heap) (tk : Nat) (acc : Array Value), (∀ b o, b ≠ it → s.heap.get? b = some o → h'.get? b = some o) → ItemsOf (fun i v => items[items.size - 1 - i]? = some v) acc items.size →
      Q₁ (.ref h'.objs.size) { s with heap := h'.push { cls := .type "tuple", data := .seq acc }, toks := tk }) : codeAny (model prog w) A (.call (.builtin "tuple.__new__") ⟨[.type "tuple", .ref it], []⟩) (wants Q₁ E) s := by
  refine codeAny_of_tree ?_
  show wpAny _ A.in1 (do checkBuiltinCall "tuple.__new__" ⟨[.type "tuple", .ref it], []⟩; again (.builtin "tuple.__new__" ⟨[.type "tuple", .ref it], []⟩)) _ _ s
  refine wpAny_bind (wpAny_of_eq (F.newCall_tuple_1 _) (wpAny_pure ⟨plainId_quiet F.plain_tuple_new _, codeAny_builtin F.entry_tuple_new ?_⟩))
  rw [Around.under_plainId F.plain_tuple_new _]
  have hsub := PySem.sub_tuple_self
  have hinit := PySem.init_tuple_lookup
  have hmh := PySem.madeHere_tuple
  have hTI : s.TypeIs (.ref it) "reversed" := hit.typeIs
  have hh1 : A.in1.handled = none := hh
  wp_walk using wpAny_typeOf hTI, rt_collect (A := A.in1) hh1 hit ht hne hn
  intro h' tk acc hk hacc
  show wpAny _ _ (Builtin.Tuple.tupleExact acc.toList.toArray >>= fun v => ret v) _ _ _
  unfold Builtin.Tuple.tupleExact
  have e : acc.toList.toArray = acc := by simp
  refine wpAny_bind (wpAny_newObj_type (wpAny_pure ?_) (by rw [e]; show acc.size ≤ sizeLine; rw [hacc.1]; exact hn))
  rw [e]
  exact h h' tk acc hk hacc
theorem rt_tuple {it t : Addr} {items : Array Value} {Q : Value → Shared → Prop} (hh : A.handled = none) (hit : RT.IsRt s.heap it t ((items.size : Int) - 1)) (ht : IsTup s.heap t items) (hne : t ≠ it) (hn : items.size ≤ sizeLine)
    (hQ : ∀ (h' : Heap) (tk : Nat) (acc : Array Value), (∀ b o, b ≠ it → s.heap.get? b = some o → h'.get? b = some o) → ItemsOf (fun i v => items[items.size - 1 - i]? = some v) acc items.size →
      Q (.ref h'.objs.size) { s with heap := h'.push { cls := .type "tuple", data := .seq acc }, toks := tk }) : wpAny (model prog w) A (call (.type "tuple") [.ref it]) Q E s := by
  refine callType_codes (Q₁ := fun obj s₁ => s₁.TypeIs obj "tuple" ∧ Q obj s₁) F.called_tuple (F.typeCall_tuple_1 _) F.entry_object_init
    (rt_code (A := A.in1) hh hit ht hne hn fun h' tk acc hk hacc => ⟨⟨_, Heap.get?_push_size _ rfl, rfl⟩, hQ h' tk acc hk hacc⟩) fun obj s₁ h₁ => ?_
  exact ⟨h₁.1, F.args_object_init_2 obj _, object_init_meets F.called_tuple.init.lookup F.called_tuple.made (by decide) prog w A.in1 _ s₁ ⟨h₁.1, rfl, h₁.2⟩⟩
end
/-- tuple(reversed(x)), x a list or a tuple -/
def tTupRvA (K : PySem.W.Frag) (te : TE) : TE := fun σ H Q => te σ H fun v H1 => ∃ (a : Addr) (xs : List V), v = .ref a ∧ (SqL K H1 a xs ∨ SqT K H1 a xs) ∧ ∀ q, H1 q = none → Q (.ref q) (upd H1 q (.tup xs.reverse))
section
variable {X : Cx} {T O : List Nat} {x : Bool} {f : M D} {e : Expr} {p p2 pos pos2 : Pos}
theorem pe_tupRvA {te : TE} (hc : X.calm = true) (hg : Gl X "tuple") (hm : X.mg "tuple" = none) (hg2 : Gl X "reversed") (hm2 : X.mg "reversed" = none) (he : PE X e te)
    (hs : starEach [e] X.env = (false, eval e X.env) :: starEach [] X.env := by rfl)
    (hs2 : starEach [.Call (.Name "reversed" p2) [e] [] pos2] X.env = (false, eval (.Call (.Name "reversed" p2) [e] [] pos2) X.env) :: starEach [] X.env := by rfl) :
    PE X (.Call (.Name "tuple" p) [.Call (.Name "reversed" p2) [e] [] pos2] [] pos) (tTupRvA X.K te) := by
  refine ⟨fun pins s σ H Q I h => ?_⟩
  refine Call_ (ld_blt I hg hm boot_tuple (PyProof.Rows.callWith_type1 (args_cons (Call_ (ld_blt I hg2 hm2 PyProof.Rows.boot_reversed (PyProof.Rows.callWith_type1 (args_cons (thn (he.run pins s σ H _ I h) fun u s1 ⟨v, H1, I1, r1, q1⟩ => args_nil ?_) hs) hs rfl))) hs2) hs2 rfl))
  obtain ⟨a, xs, ev, hq, q⟩ := q1
  subst ev
  obtain rfl : u = Value.ref a := r1
  obtain ⟨f0, f1, f2, f3, f4, f5⟩ := I1.fpOk (H' := H1) (b := s1.heap.objs.size) (Nat.le_refl _) (I1.hok.fresh (Nat.le_refl _))
  rcases hq with hq | hq
  · obtain ⟨its, rv, p', hz⟩ := I1.list hq
    refine call_reversed_list p'.isList (args_nil ?_)
    have I2 : Inv X pins σ H1 { s1 with heap := s1.heap.push (revObj a ((its.toArray.size : Int) - 1)) } := I1.kept (t' := s1.toks) fun b o e => Heap.get?_push_of_some _ e
    have hl := p'.isList
    have hne : a ≠ s1.heap.objs.size := by obtain ⟨o, ho, _⟩ := id hl; exact Nat.ne_of_lt (Heap.lt_size ho)
    refine RT.call_tuple_rev (s := { s1 with heap := s1.heap.push (revObj a ((its.toArray.size : Int) - 1)) }) (I1.ok.hd hc) ⟨_, Heap.get?_push_size _ rfl, rfl, rfl⟩ (hl.push _) hne (by rw [List.size_toArray, ← rv.length]; exact hz) fun h' tk acc hk hi => ?_
    have I3 : Inv X pins σ H1 { s1 with heap := h', toks := tk } := I2.turned (t' := tk) (fun b o hb e => hk b o hb e) f0 f1 f3 f4 f5
    exact ⟨.ref h'.objs.size, upd H1 h'.objs.size (.tup xs.reverse), I3.laid (t' := tk) (fun c o e => Heap.get?_push_of_some _ e) (Nat.le_refl _) (show ObjOk X.prog X.w _ _ _ (.tup xs.reverse) from ⟨by rw [List.length_reverse]; exact hz, acc.toList, RT.vals_rev rv hi, by rw [Array.toArray_toList]; exact IsTup.new _ _⟩), rfl, q _ (I3.hok.fresh (Nat.le_refl _))⟩
  · obtain ⟨its, rv, p', hz⟩ := I1.tuple hq
    have hn := line63
    have hl := rv.length
    have hne : a ≠ s1.heap.objs.size := by obtain ⟨o, ho, _⟩ := id p'; exact Nat.ne_of_lt (Heap.lt_size ho)
    refine RT.call_reversed_tup p' (fun A E Q k => len_tuple p' (by simp only [List.size_toArray] <;> omega) k) (args_nil ?_)
    have I2 : Inv X pins σ H1 { s1 with heap := s1.heap.push (RT.rtObj a ((its.toArray.size : Int) - 1)), toks := s1.toks + 1 + 1 } := I1.kept (t' := s1.toks + 1 + 1) fun b o e => Heap.get?_push_of_some _ e
    have ht2 : IsTup (s1.heap.push (RT.rtObj a ((its.toArray.size : Int) - 1))) a its.toArray := by obtain ⟨o, ho, r⟩ := id p'; exact ⟨o, Heap.get?_push_of_some _ ho, r⟩
    refine rt_tuple (s := { s1 with heap := s1.heap.push (RT.rtObj a ((its.toArray.size : Int) - 1)), toks := s1.toks + 1 + 1 }) (I1.ok.hd hc) ⟨_, Heap.get?_push_size _ rfl, rfl, rfl⟩ ht2 hne (by rw [List.size_toArray, ← hl]; exact hz) fun h' tk acc hk hi => ?_
    have I3 : Inv X pins σ H1 { s1 with heap := h', toks := tk } := I2.turned (t' := tk) (fun b o hb e => hk b o hb e) f0 f1 f3 f4 f5
    exact ⟨.ref h'.objs.size, upd H1 h'.objs.size (.tup xs.reverse), I3.laid (t' := tk) (fun c o e => Heap.get?_push_of_some _ e) (Nat.le_refl _) (show ObjOk X.prog X.w _ _ _ (.tup xs.reverse) from ⟨by rw [List.length_reverse]; exact hz, acc.toList, RT.vals_rev rv hi, by rw [Array.toArray_toList]; exact IsTup.new _ _⟩), rfl, q _ (I3.hok.fresh (Nat.le_refl _))⟩
theorem Rs.rev0 {K : PySem.W.Frag} {Z : Addr → Prop} {H : Hp} : ∀ {ds : List D} {vs : List V}, Rs K Z H ds vs [] → Rs K Z H ds.reverse vs.reverse []
  | [], vs, r => by cases r; exact .nil
  | d :: ds, vs, r => by
    obtain ⟨v, ws, F1, F2, rfl, e, r1, r2⟩ := r.uncons
    obtain ⟨e1, e2⟩ := app_eq_nil e.symm
    subst e1 e2
    rw [List.reverse_cons, List.reverse_cons]
    exact Rs.app (F := []) (G := []) r2.rev0 (Rs.one r1)
def fTupRev (f : M D) : M D := fun ρ => (f ρ).bind fun p => (itemsOf p.1).bind fun l => some (.tup l.reverse, p.2)
theorem itemsOf_any {d : D} {l : List D} {K : PySem.W.Frag} {Z : Addr → Prop} {H : Hp} {v : V} {F : List Addr} (h : itemsOf d = some l) (r : R K Z H d v F) : ∃ a vs, v = .ref a ∧ (SqL K H a vs ∨ SqT K H a vs) ∧ Rs K Z H l vs [] := by
  cases d <;> simp only [itemsOf] at h <;> try (cases h)
  · split at h
    · rename_i hn
      cases h
      obtain ⟨a, vs, e, hq, rs⟩ := r.tup_inv
      exact ⟨a, vs, e, .inr hq, rs.nil_of hn⟩
    · cases h
  · split at h
    · rename_i hn
      cases h
      obtain ⟨a, vs, G, e, hq, rs, _⟩ := r.lst_at
      exact ⟨a, vs, e, .inl hq, rs.nil_of hn⟩
    · cases h
  · split at h
    · cases h
      obtain ⟨a, vs, e, _, hq, rs⟩ := r.scr_at
      exact ⟨a, vs, e, .inl hq, rs⟩
    · cases h
  · split at h
    · rename_i hn
      cases h
      obtain ⟨a, vs, e, hq, rs⟩ := r.xt_inv
      exact ⟨a, vs, e, .inr hq, rs.nil_of hn⟩
    · cases h
theorem pev_tupRev (hc : X.calm = true) (hg : Gl X "tuple") (hm : X.mg "tuple" = none) (hg2 : Gl X "reversed") (hm2 : X.mg "reversed" = none) (he : PEV X T O x e f)
    (hs : starEach [e] X.env = (false, eval e X.env) :: starEach [] X.env := by rfl)
    (hs2 : starEach [.Call (.Name "reversed" p2) [e] [] pos2] X.env = (false, eval (.Call (.Name "reversed" p2) [e] [] pos2) X.env) :: starEach [] X.env := by rfl) :
    PEV X T [] true (.Call (.Name "tuple" p) [.Call (.Name "reversed" p2) [e] [] pos2] [] pos) (fTupRev f) := by
  refine PE.imp (pe_tupRvA hc hg hm hg2 hm2 he hs hs2) fun σ H Q h => ?_
  obtain ⟨Z, ρ, Fs, d, ρ', rel, hf, q⟩ := h
  unfold fTupRev at hf
  obtain ⟨⟨d1, ρ1⟩, h1, hf⟩ := Option.bind_eq_some_iff.mp hf
  obtain ⟨l, h2, hf⟩ := Option.bind_eq_some_iff.mp hf
  cases hf
  refine ⟨Z, ρ, Fs, d1, _, rel, h1, fun v H' Z' Fs' F rel' f' w c => ?_⟩
  obtain ⟨a, vs, e, hq, rs⟩ := itemsOf_any h2 w.r
  refine ⟨a, vs, e, hq, fun p hp => ?_⟩
  refine new_tup hp rs.rev0 fun v H2 F k r nd nw => ?_
  have fz := f'.trans (Frm.pureT [] k)
  rw [List.append_nil] at fz
  exact q v H2 Z' Fs' F (rel'.keep0 k) fz (Val.new rel' r nd nw) (Cf.new f'.keep nw)
end
end Vl

namespace Vl
open PySem PySem.Spec PyProof.Rows L2

/-! ### walks that nothing disturbs, comprehensions of two clauses -/
def StayR (K : PySem.W.Frag) (Z' : Addr → Prop) (H' : Hp) (G : Hp → Prop) (Y : Nat → Hp → V → Hp → Prop) (items : List D) : Prop :=
  ∀ (B : Addr → Prop) (Z2 : Addr → Prop) (H2 : Hp), Keep B H' H2 → (∀ a, Z' a → ¬ B a) → (∀ a, Z' a → Z2 a) → G H2 ∧ ∀ i x h d, Y i H2 x h → items[i]? = some d → Keep M0 H2 h ∧ R K Z2 h d x []
def tVIr (K : PySem.W.Frag) (T : List Nat) (f : M (List D)) : TI := fun σ H Rk => ∃ Z ρ Fs items ρ', Rel K Z ρ σ H Fs ∧ f ρ = some (items, ρ') ∧
  ∀ J H' Z' Fs' G Y, Rel K Z' ρ' σ H' Fs' → Frm T Z ρ Fs H Z' ρ' Fs' H' → Walk J items.length G Y → StayR K Z' H' G Y items → Rk J H'
abbrev PIVr (X : Cx) (T : List Nat) (tg e : Expr) (f : M (List D)) : Prop := PI X tg e (tVIr X.K T f)
section
variable {X : Cx} {T T1 O W Wg Tg Tt Te Wg1 Tg1 Tt1 : List Nat} {x : Bool} {a b e tg iter elt tg1 iter1 : Expr} {ifs ifs1 : List Expr} {f fe : M D} {fi fi1 fr : M (List D)} {ft ft1 : M Bool} {p pos : Pos} {g g1 : D → Env → Option Env}
theorem pivr_range1 (hg : Gl X "range") (hm : X.mg "range" = none) (ha : PAV X T O x [a] fr) (hs : starEach [a] X.env = [(false, eval a X.env)] := by rfl) : PIVr X T tg (.Call (.Name "range" p) [a] [] pos) (iRg1 fr) := by
  refine PI.imp (pi_range1 hg hm ha hs) fun σ H Rk h => ?_
  obtain ⟨Z, ρ, Fs, items, ρ', rel, hf, q⟩ := h
  unfold iRg1 at hf
  obtain ⟨⟨ds, ρ1⟩, h1, hf⟩ := Option.bind_eq_some_iff.mp hf
  split at hf
  · rename_i j e
    split at hf
    · rename_i hok
      cases hf
      obtain ⟨q1, q2⟩ := okR_of hok
      refine ⟨Z, ρ, Fs, ds, _, rel, h1, fun vs H' Z' Fs' F rel' f' w c => ?_⟩
      have e : ds = [.int j] := e
      subst e
      refine ⟨j, w.r.ints1, by omega, by omega, ?_⟩
      have wk := walk_range (lo := 0) (n := j.toNat)
      have st := stay_range (K := X.K) (Z := Z') (H := H') (lo := 0) (n := j.toNat)
      exact q _ H' Z' Fs' _ _ rel' f' (by rw [rgItems_length]; exact wk) fun B Z2 H2 k hz zz => st B Z2 H2 k (fun _ h => (by cases h)) hz zz
    · cases hf
  · cases hf
theorem pivr_range2 (hg : Gl X "range") (hm : X.mg "range" = none) (ha : PAV X T O x [a, b] fr) (hs : starEach [a, b] X.env = [(false, eval a X.env), (false, eval b X.env)] := by rfl) (hs2 : starEach [b] X.env = [(false, eval b X.env)] := by rfl) :
    PIVr X T tg (.Call (.Name "range" p) [a, b] [] pos) (iRg2 fr) := by
  refine PI.imp (pi_range2 hg hm ha hs hs2) fun σ H Rk h => ?_
  obtain ⟨Z, ρ, Fs, items, ρ', rel, hf, q⟩ := h
  unfold iRg2 at hf
  obtain ⟨⟨ds, ρ1⟩, h1, hf⟩ := Option.bind_eq_some_iff.mp hf
  split at hf
  · rename_i i j e
    split at hf
    · rename_i hok
      cases hf
      rw [Bool.and_eq_true] at hok
      obtain ⟨q1, q2⟩ := okR_of hok.1
      obtain ⟨q3, q4⟩ := okR_of hok.2
      refine ⟨Z, ρ, Fs, ds, _, rel, h1, fun vs H' Z' Fs' F rel' f' w c => ?_⟩
      have e : ds = [.int i, .int j] := e
      subst e
      have wk := walk_range (lo := i) (n := (j - i).toNat)
      have st := stay_range (K := X.K) (Z := Z') (H := H') (lo := i) (n := (j - i).toNat)
      have fin := q _ H' Z' Fs' _ _ rel' f' (by rw [rgItems_length]; exact wk) fun B Z2 H2 k hz zz => st B Z2 H2 k (fun _ h => (by cases h)) hz zz
      exact ⟨i, j, w.r.ints2, ⟨by omega, by omega, by omega, by omega⟩, fin⟩
    · cases hf
  · cases hf
def iSeqR (f : M D) : M (List D) := fun ρ => (f ρ).bind fun p => if p.1.noOwn = true then (itemsOf p.1).bind fun l => some (l, p.2) else none
theorem pivr_seq (h : PEV X T O x e f) : PIVr X T tg e (iSeqR f) := by
  refine PI.imp (pi_sq h) fun σ H Rk h => ?_
  obtain ⟨Z, ρ, Fs, items, ρ', rel, hf, q⟩ := h
  unfold iSeqR at hf
  obtain ⟨⟨d, ρ1⟩, h1, hf⟩ := Option.bind_eq_some_iff.mp hf
  split at hf
  · rename_i hno
    obtain ⟨l, h2, hf⟩ := Option.bind_eq_some_iff.mp hf
    cases hf
    refine ⟨Z, ρ, Fs, d, _, rel, h1, fun v H' Z' Fs' F rel' f' w c => ?_⟩
    have w0 := w.r
    have e0 := w0.no hno
    subst e0
    cases d <;> simp only [itemsOf] at h2 <;> try (cases h2)
    · split at h2
      · rename_i hn
        cases h2
        obtain ⟨a, vs, e, hq, hl, st⟩ := w0.tup_keep (Z' := Z') (H' := H') hn
        refine ⟨a, e, .inr ⟨vs, hq, ?_⟩⟩
        have wk := walk_tup (K := X.K) (a := a) (xs := vs)
        rw [← hl] at wk
        exact q _ H' Z' Fs' _ _ rel' f' wk fun B Z2 H2 k hz zz => (stay_tup (F := []) st) B Z2 H2 k (fun _ h => (by cases h)) hz zz
      · cases h2
    · split at h2
      · rename_i hn
        cases h2
        obtain ⟨a, vs, e, hq, hl, st⟩ := w0.lst_keep (Z' := Z') (H' := H') hn
        refine ⟨a, e, .inl ⟨vs, hq, ?_⟩⟩
        have wk := walk_list (K := X.K) (a := a) (xs := vs)
        rw [← hl] at wk
        exact q _ H' Z' Fs' _ _ rel' f' wk fun B Z2 H2 k hz zz => (stay_list st) B Z2 H2 k (fun _ h => (by cases h)) hz zz
      · cases h2
    · split at h2
      · cases h2
        obtain ⟨a, vs, e, hq, hl, st⟩ := w0.scr_keep (Z' := Z') (H' := H')
        refine ⟨a, e, .inl ⟨vs, hq, ?_⟩⟩
        have wk := walk_list (K := X.K) (a := a) (xs := vs)
        rw [← hl] at wk
        exact q _ H' Z' Fs' _ _ rel' f' wk fun B Z2 H2 k hz zz => (stay_list st) B Z2 H2 k (fun _ h => (by cases h)) hz zz
      · cases h2
    · split at h2
      · rename_i hn
        cases h2
        obtain ⟨a, vs, e, hq, hl, st⟩ := w0.xt_keep (Z' := Z') (H' := H') hn
        refine ⟨a, e, .inr ⟨vs, hq, ?_⟩⟩
        have wk := walk_tup (K := X.K) (a := a) (xs := vs)
        rw [← hl] at wk
        exact q _ H' Z' Fs' _ _ rel' f' wk fun B Z2 H2 k hz zz => (stay_tup (F := []) st) B Z2 H2 k (fun _ h => (by cases h)) hz zz
      · cases h2
  · cases hf
def compL2 (vs vs1 : List Nat) (g : D → Env → Option Env) (ft : M Bool) (fi1 : M (List D)) (g1 : D → Env → Option Env) (ft1 : M Bool) (fe : M D) : List D → Env → List D → Option (List D × Env)
  | [], ρ, acc => some (acc, ρ)
  | d :: ds, ρ, acc => (g d (wipeE ρ vs)).bind fun ρ1 => (ft ρ1).bind fun p => if p.1 = true then (fi1 p.2).bind fun q => (compL vs1 g1 ft1 fe q.1 q.2 acc).bind fun r => compL2 vs vs1 g ft fi1 g1 ft1 fe ds (wipeE r.2 vs1) r.1
    else compL2 vs vs1 g ft fi1 g1 ft1 fe ds p.2 acc
def fComp2 (vs vs1 : List Nat) (fi : M (List D)) (g : D → Env → Option Env) (ft : M Bool) (fi1 : M (List D)) (g1 : D → Env → Option Env) (ft1 : M Bool) (fe : M D) : M D := fun ρ => (fi ρ).bind fun p => if ownOk p.2 vs = true then (compL2 vs vs1 g ft fi1 g1 ft1 fe p.1 p.2 []).bind fun q => some (.lst true q.1, backE p.2 q.2 vs) else none
theorem BK.nzD {K : PySem.W.Frag} {Tl : List Nat} {Z1 Z : Addr → Prop} {ρ1 ρ : Env} {Fs1 Fs : Ft} {H1 H : Hp} {DD : Addr} {acc : List D} {τ : L2.St} (b : BK K Tl Z1 ρ1 Fs1 H1 DD acc Z ρ Fs H τ) : ¬ Z DD := by
  obtain ⟨F, w, _⟩ := b.val
  have h2 := (w.exc rfl).2
  have r := w.r
  cases r with
  | own _ _ => exact h2 DD List.mem_cons_self
def Kp (Z4 : Addr → Prop) (H4 : Hp) (Z : Addr → Prop) (H : Hp) : Prop := ∃ B : Addr → Prop, Keep B H4 H ∧ (∀ a, Z4 a → ¬ B a) ∧ ∀ a, Z4 a → Z a
theorem Kp.step {K : PySem.W.Frag} {T' : List Nat} {Z4 Za Zb : Addr → Prop} {ρa ρb : Env} {Fsa Fsb : Ft} {H4 Ha Hb : Hp} {τ : L2.St} (k : Kp Z4 H4 Za Ha) (rel : Rel K Za ρa τ Ha Fsa) (f : Frm T' Za ρa Fsa Ha Zb ρb Fsb Hb) : Kp Z4 H4 Zb Hb := by
  obtain ⟨B, k1, k2, k3⟩ := k
  exact ⟨fun a => B a ∨ ∃ j ∈ T', a ∈ Fsa j, k1.trans f.keep (fun _ h => .inl h) fun a h => .inl (.inr h), fun a z h => h.elim (k2 a z) fun ⟨j, _, hj⟩ => rel.nz j a hj (k3 a z), fun a z => f.zz a (k3 a z)⟩
theorem Kp.wr {Z4 Z : Addr → Prop} {H4 H : Hp} {DD : Addr} {u o : HO} (k : Kp Z4 H4 Z H) (hD : H DD = some u) (hu : Mut (some u)) (hz : ¬ Z DD) : Kp Z4 H4 Z (upd H DD o) := by
  obtain ⟨B, k1, k2, k3⟩ := k
  exact ⟨fun a => B a ∨ a = DD, k1.trans (Keep.wr hD hu) (fun _ h => .inl h) fun a h => .inl (.inr h), fun a z h => h.elim (k2 a z) fun e => hz (by rw [← e]; exact k3 a z), k3⟩
/-- an inner walk of a comprehension, with the outer bookkeeping kept -/
theorem tv_inner {K : PySem.W.Frag} {Tl : List Nat} {Z1 : Addr → Prop} {ρ1 : Env} {Fs1 : Ft} {H1 : Hp} {DD : Addr} (hDD : H1 DD = none) {vs1 : List Nat} {items1 : List D} {J1 : It} {G1 : Hp → Prop} {Y1 : Nat → Hp → V → Hp → Prop} {σ2 : L2.St} {H4 : Hp} {Z4 : Addr → Prop} {ρ4 : Env} {Fs4 : Ft} {acc racc : List D} {ρr : Env}
    (hW1 : Wg1.all (fun i => vs1.contains i) = true) (inT : ∀ j, j ∈ vs1 ∨ j ∈ Tg1 ∨ j ∈ Tt1 ∨ j ∈ Te → j ∈ Tl) (b : BK K Tl Z1 ρ1 Fs1 H1 DD acc Z4 ρ4 Fs4 H4 σ2) (wk : Walk J1 items1.length G1 Y1) (stay : StayR K Z4 H4 G1 Y1 items1)
    (hc : compL vs1 g1 ft1 fe items1 ρ4 acc = some (racc, ρr)) {Nx : Hp → Prop} (fin : ∀ Z5 Fs5 H5, BK K Tl Z1 ρ1 Fs1 H1 DD racc Z5 (wipeE ρr vs1) Fs5 H5 (wipe σ2 vs1) → Nx H5) :
    ∃ W1 : Nat → Nat → Hp → Prop, (∃ m, W1 0 m H4) ∧ ∀ j k H, W1 j k H →
      (J1.stop j H ∧ Nx H) ∨ (J1.go j H ∧ ∃ Nx1 : Hp → Prop, (∀ H', Nx1 H' → ∃ k', k' < k ∧ W1 (j + 1) k' H') ∧ ∀ x H', J1.yld j H x H' → tVG K Wg1 Tg1 g1 x (wipe σ2 vs1) H' fun σ3 H5 => wipe σ3 vs1 = wipe σ2 vs1 ∧ tVT K Tt1 ft1 σ3 H5 fun b H6 =>
        if b = true then tV K Te [] true fe σ3 H6 fun y H7 => ∃ acc, H7 DD = some (.lst acc) ∧ acc.length < sizeLine ∧ Nx1 (upd H7 DD (.lst (acc ++ [y]))) else Nx1 H6) := by
  have inW : ∀ j ∈ Wg1, j ∈ vs1 := fun j hj => by simpa using List.all_eq_true.mp hW1 j hj
  let Pv : Nat → Hp → Prop := fun j Hj => ∃ Zj ρj Fsj acc', BK K Tl Z1 ρ1 Fs1 H1 DD acc' Zj (wipeE ρj vs1) Fsj Hj (wipe σ2 vs1) ∧ Kp Z4 H4 Zj Hj ∧ compL vs1 g1 ft1 fe (items1.drop j) ρj acc' = some (racc, ρr)
  refine ⟨fun j m H => m = items1.length - j ∧ j ≤ items1.length ∧ Pv j H, ⟨items1.length, by simp, Nat.zero_le _, Z4, ρ4, dropF Fs4 vs1, acc, b.wipe vs1 (wipe_length _ _) (fun i hi => wipe_out' hi) fun j hj => inT j (.inl hj), ⟨fun _ => False, Keep.refl _ _, fun _ _ h => h, fun _ h => h⟩, by rw [List.drop_zero]; exact hc⟩, ?_⟩
  rintro j m H ⟨rfl, hj, Zj, ρj, Fsj, acc', bj, ⟨B, kB, hB, zB⟩, hcj⟩
  obtain ⟨hG, hS⟩ := stay B Zj H kB hB zB
  by_cases hlt : j < items1.length
  · refine .inr ⟨wk.goes j H hlt hG, Pv (j + 1), fun H' p' => ⟨items1.length - (j + 1), by omega, rfl, hlt, p'⟩, fun x H' y => ?_⟩
    have hd : items1[j]? = some items1[j] := List.getElem?_eq_getElem hlt
    obtain ⟨k, rv⟩ := hS j x H' _ (wk.yields j H x H' hlt hG y) hd
    rw [List.drop_eq_getElem_cons hlt] at hcj
    obtain ⟨ρg, hg1, hcj⟩ := Option.bind_eq_some_iff.mp hcj
    obtain ⟨⟨bt, ρt⟩, ht1, hcj⟩ := Option.bind_eq_some_iff.mp hcj
    have b1 := bj.keep0 k
    have kp1 : Kp Z4 H4 Zj H' := ⟨B, kB.trans k (fun _ h => h) fun _ h => h.elim, hB, zB⟩
    refine ⟨Zj, wipeE ρj vs1, Fsj, items1[j], ρg, b1.rel, rv, hg1, fun σ3 H5 Z5 Fs5 fn5 => ⟨?_, ?_⟩⟩
    · refine wipe_eq (by rw [fn5.sl, wipe_length]) fun i hi => ?_
      rw [fn5.sg i fun z => hi (inW i z), wipe_out' hi]
    · have b2 := b1.step fn5.rel fn5.frm fun i hi => inT i (.inr (.inl hi))
      have kp2 := kp1.step b1.rel fn5.frm
      have outs2 : ∀ i, i ∉ vs1 → (wipe σ2 vs1)[i]? = σ3[i]? := fun i hi => (fn5.sg i fun z => hi (inW i z)).symm
      refine ⟨Z5, ρg, Fs5, bt, ρt, fn5.rel, ht1, fun H6 Z6 Fs6 rel6 f6 => ?_⟩
      have b3 := b2.step rel6 f6 fun i hi => inT i (.inr (.inr (.inl hi)))
      have kp3 := kp2.step fn5.rel f6
      cases bt with
      | false =>
        refine iteF ?_
        rw [if_neg Bool.false_ne_true] at hcj
        exact ⟨Z6, ρt, _, acc', b3.wipe vs1 (by rw [fn5.sl]) outs2 fun i hi => inT i (.inl hi), kp3, hcj⟩
      | true =>
        refine iteT ?_
        rw [if_pos rfl] at hcj
        obtain ⟨⟨de, ρe⟩, he1, hcj⟩ := Option.bind_eq_some_iff.mp hcj
        split at hcj
        · rename_i hz
          refine ⟨Z6, ρt, Fs6, de, ρe, rel6, he1, fun v7 H7 Z7 Fs7 F7 rel7 f7 w7 c7 => ?_⟩
          obtain ⟨vacc, hv1, hv2, b4⟩ := b3.app rel7 f7 (fun i hi => inT i (.inr (.inr (.inr hi)))) w7 c7 hDD
          have kp4 := (kp3.step rel6 f7).wr (o := .lst (vacc ++ [v7])) hv1 trivial b4.nzD
          exact ⟨vacc, hv1, by rw [hv2]; exact sz_lt hz, Z7, ρe, _, _, b4.wipe vs1 (by rw [fn5.sl]) outs2 fun i hi => inT i (.inl hi), kp4, hcj⟩
        · cases hcj
  · have e : j = items1.length := by omega
    subst e
    rw [List.drop_length] at hcj
    cases hcj
    exact .inl ⟨wk.stops H hG, fin Zj Fsj H bj⟩
theorem tv_comp2 (vs vs1 : List Nat) (hv1 : vs1.all (fun i => vs.contains i) = true) (hW : Wg.all (fun i => vs.contains i) = true) (hW1 : Wg1.all (fun i => vs1.contains i) = true) (ho : O.all (fun i => !(vs ++ (Tg ++ (Tt ++ (T1 ++ (Tg1 ++ (Tt1 ++ Te)))))).contains i) = true) {σ : L2.St} {H : Hp} {Q : VK}
    (h : tV X.K (T ++ ((vs ++ (Tg ++ (Tt ++ (T1 ++ (Tg1 ++ (Tt1 ++ Te)))))) ++ vs)) [] true (fComp2 vs vs1 fi g ft fi1 g1 ft1 fe) σ H Q) :
    tLc2 (tVI X.K T O fi) (tVG X.K Wg Tg g) (tVT X.K Tt ft) (tVIr X.K T1 fi1) (tVG X.K Wg1 Tg1 g1) (tVT X.K Tt1 ft1) (tV X.K Te [] true fe) vs vs1 σ H Q := by
  obtain ⟨Z, ρ, Fs, d, ρ', rel, hf, q⟩ := h
  unfold fComp2 at hf
  obtain ⟨⟨items, ρ1⟩, h1, hf⟩ := Option.bind_eq_some_iff.mp hf
  split at hf
  · rename_i hok
    obtain ⟨⟨res, ρ2⟩, h2, hf⟩ := Option.bind_eq_some_iff.mp hf
    cases hf
    refine ⟨Z, ρ, Fs, items, ρ1, rel, h1, fun J H1 Z1 Fs1 A G Y rel1 f1 wk hA stay DD hDD => ?_⟩
    have inTl : ∀ j, j ∈ vs ∨ j ∈ Tg ∨ j ∈ Tt ∨ j ∈ T1 ∨ j ∈ Tg1 ∨ j ∈ Tt1 ∨ j ∈ Te → j ∈ vs ++ (Tg ++ (Tt ++ (T1 ++ (Tg1 ++ (Tt1 ++ Te))))) := fun j h => by
      simp only [List.mem_append]
      exact h
    generalize hTl : vs ++ (Tg ++ (Tt ++ (T1 ++ (Tg1 ++ (Tt1 ++ Te))))) = Tl at q ho inTl
    have far : ∀ a ∈ A, ¬ ∃ j ∈ Tl, a ∈ Fs1 j := fun a ha ⟨j, hj, hf⟩ => by
      have z := List.all_eq_true.mp ho j (hA j a ha hf)
      simp only [Bool.not_eq_true', List.contains_eq_mem, decide_eq_false_iff_not] at z
      exact z hj
    have znot : ∀ a, Z1 a → ¬ ∃ j ∈ Tl, a ∈ Fs1 j := fun a z ⟨j, _, ha⟩ => rel1.nz j a ha z
    have k0 : Keep M0 H1 (upd H1 DD (.lst [])) := Keep.new hDD
    have inW : ∀ j ∈ Wg, j ∈ vs := fun j hj => by simpa using List.all_eq_true.mp hW j hj
    have inV : ∀ j ∈ vs1, j ∈ vs := fun j hj => by simpa using List.all_eq_true.mp hv1 j hj
    have b0 : BK X.K Tl Z1 ρ1 Fs1 H1 DD [] Z1 (wipeE ρ1 vs) (dropF Fs1 vs) (upd H1 DD (.lst [])) (wipe σ vs) := by
      have b : BK X.K Tl Z1 ρ1 Fs1 H1 DD [] Z1 ρ1 Fs1 (upd H1 DD (.lst [])) σ := by
        refine ⟨rel1.keep0 k0, Frm.pureT _ k0, [DD], ⟨.own upd_same .nil, fun j a h1 h2 => ?_, fun _ => ⟨by simp, fun a ha z => ?_⟩⟩, fun _ a ha => .inr ?_⟩
        · have e : a = DD := by simpa using h1
          exact absurd hDD (by rw [← e]; exact rel1.ft j a h2)
        · have e : a = DD := by simpa using ha
          exact rel1.zt a z (by rw [e]; exact hDD)
        · have e : a = DD := by simpa using ha
          rw [e]; exact hDD
      exact b.wipe vs (wipe_length _ _) (fun i hi => wipe_out' hi) fun j hj => inTl j (.inl hj)
    let Pv : Nat → Hp → Prop := fun i Hi => ∃ Zi ρi Fsi acc, BK X.K Tl Z1 ρ1 Fs1 H1 DD acc Zi (wipeE ρi vs) Fsi Hi (wipe σ vs) ∧ ρi.length = ρ1.length ∧ compL2 vs vs1 g ft fi1 g1 ft1 fe (items.drop i) ρi acc = some (res, ρ2)
    refine ⟨fun i m H => m = items.length - i ∧ i ≤ items.length ∧ Pv i H, ⟨items.length, by simp, Nat.zero_le _, Z1, ρ1, _, [], b0, rfl, by rw [List.drop_zero]; exact h2⟩, ?_⟩
    rintro i m Hi ⟨rfl, hi, Zi, ρi, Fsi, acc, b, hl, hc⟩
    obtain ⟨hG, hS⟩ := stay _ Zi Hi b.frm.keep far znot b.frm.zz
    by_cases hlt : i < items.length
    · refine .inr ⟨wk.goes i Hi hlt hG, Pv (i + 1), fun H' p' => ⟨items.length - (i + 1), by omega, rfl, hlt, p'⟩, fun v H' y => ?_⟩
      have hd : items[i]? = some items[i] := List.getElem?_eq_getElem hlt
      obtain ⟨k, rv⟩ := hS i v H' _ (wk.yields i Hi v H' hlt hG y) hd
      rw [List.drop_eq_getElem_cons hlt] at hc
      obtain ⟨ρg, hg1, hc⟩ := Option.bind_eq_some_iff.mp hc
      obtain ⟨⟨bt, ρt⟩, ht1, hc⟩ := Option.bind_eq_some_iff.mp hc
      have b1 := b.keep0 k
      refine ⟨Zi, wipeE ρi vs, Fsi, items[i], ρg, b1.rel, rv, hg1, fun σ2 H2 Z2 Fs2 fn2 => ⟨?_, ?_⟩⟩
      · refine wipe_eq (by rw [fn2.sl, wipe_length]) fun j hj => ?_
        rw [fn2.sg j fun z => hj (inW j z), wipe_out' hj]
      · have b2 := b1.step fn2.rel fn2.frm fun j hj => inTl j (.inr (.inl hj))
        have outs2 : ∀ j, j ∉ vs → (wipe σ vs)[j]? = σ2[j]? := fun j hj => (fn2.sg j fun z => hj (inW j z)).symm
        refine ⟨Z2, ρg, Fs2, bt, ρt, fn2.rel, ht1, fun H3 Z3 Fs3 rel3 f3 => ?_⟩
        have b3 := b2.step rel3 f3 fun j hj => inTl j (.inr (.inr (.inl hj)))
        cases bt with
        | false =>
          refine iteF ?_
          rw [if_neg Bool.false_ne_true] at hc
          exact ⟨Z3, ρt, _, acc, b3.wipe vs (by rw [fn2.sl]) outs2 fun j hj => inTl j (.inl hj), b3.frm.len, hc⟩
        | true =>
          refine iteT ?_
          rw [if_pos rfl] at hc
          obtain ⟨⟨items1, ρq⟩, hi1, hc⟩ := Option.bind_eq_some_iff.mp hc
          obtain ⟨⟨racc, ρr⟩, hr1, hc⟩ := Option.bind_eq_some_iff.mp hc
          refine ⟨Z3, ρt, Fs3, items1, ρq, rel3, hi1, fun J1 H4 Z4 Fs4 G1 Y1 rel4 f4 wk1 stay1 => ?_⟩
          have b4 := b3.step rel4 f4 fun j hj => inTl j (.inr (.inr (.inr (.inl hj))))
          refine tv_inner (Wg1 := Wg1) (Tg1 := Tg1) (Tt1 := Tt1) (Te := Te) (ft1 := ft1) (g1 := g1) (fe := fe) hDD hW1 (fun j hj => inTl j ?_) b4 wk1 stay1 hr1 fun Z5 Fs5 H5 b5 => ?_
          · rcases hj with hj | hj | hj | hj
            · exact .inl (inV j hj)
            · exact .inr (.inr (.inr (.inr (.inl hj))))
            · exact .inr (.inr (.inr (.inr (.inr (.inl hj)))))
            · exact .inr (.inr (.inr (.inr (.inr (.inr hj)))))
          · refine ⟨Z5, wipeE ρr vs1, _, racc, b5.wipe vs (by rw [wipe_length σ2, fn2.sl]) (fun j hj => ?_) fun j hj => inTl j (.inl hj), b5.frm.len, hc⟩
            rw [wipe_out' (fun z => hj (inV j z))]
            exact outs2 j hj
    · have e : i = items.length := by omega
      subst e
      rw [List.drop_length] at hc
      cases hc
      refine .inl ⟨wk.stops Hi hG, ?_⟩
      obtain ⟨F, w, c⟩ := b.val
      have rb := Rel.back rel1 hok b.rel b.frm
      have fb := Frm.back (vs := vs) b.frm
      rw [backE_wipe hl] at rb fb
      exact q (.ref DD) Hi Zi _ F rb (f1.trans fb) w.wipe (Cf.late f1 (c.mono fun j hj => List.mem_append_left _ hj))
  · cases hf
theorem pev_lc2 {scope : Scope} {own : List (Str × Nat)} (vs vs1 : List Nat) (hc : X.calm = true) (hN : X.N.Nodup) (hi : PIV X T O tg iter fi) (ok : BlkOk X.N X.env.scope scope own)
    (hg : ∀ (s : Shared) (H : Hp) (C : Addr) (cl : List (Str × Addr)) (fp : List Addr), PGV (X.blk s H scope (compEnvC scope cl C X.env) fp) Wg Tg tg g) (ht : ∀ (s : Shared) (H : Hp) (C : Addr) (cl : List (Str × Addr)) (fp : List Addr), PTsV (X.blk s H scope (compEnvC scope cl C X.env) fp) Tt ifs ft)
    (hi1 : ∀ (s : Shared) (H : Hp) (C : Addr) (cl : List (Str × Addr)) (fp : List Addr), PIVr (X.blk s H scope (compEnvC scope cl C X.env) fp) T1 tg1 iter1 fi1)
    (hg1 : ∀ (s : Shared) (H : Hp) (C : Addr) (cl : List (Str × Addr)) (fp : List Addr), PGV (X.blk s H scope (compEnvC scope cl C X.env) fp) Wg1 Tg1 tg1 g1) (ht1 : ∀ (s : Shared) (H : Hp) (C : Addr) (cl : List (Str × Addr)) (fp : List Addr), PTsV (X.blk s H scope (compEnvC scope cl C X.env) fp) Tt1 ifs1 ft1)
    (he : ∀ (s : Shared) (H : Hp) (C : Addr) (cl : List (Str × Addr)) (fp : List Addr), PEV (X.blk s H scope (compEnvC scope cl C X.env) fp) Te [] true elt fe) (hvs : own.map (·.2) = vs := by rfl) (hv1 : vs1.all (fun i => vs.contains i) = true := by rfl) (hW : Wg.all (fun i => vs.contains i) = true := by rfl) (hW1 : Wg1.all (fun i => vs1.contains i) = true := by rfl)
    (ho : O.all (fun i => !(vs ++ (Tg ++ (Tt ++ (T1 ++ (Tg1 ++ (Tt1 ++ Te)))))).contains i) = true := by rfl) (hs : ∀ x, foldedSetIterable iter X.env x = pure x := by intro _; rfl) (hs1 : ∀ env x, foldedSetIterable iter1 env x = pure x := by intro _ _; rfl) :
    PEV X (T ++ ((vs ++ (Tg ++ (Tt ++ (T1 ++ (Tg1 ++ (Tt1 ++ Te)))))) ++ vs)) [] true (.ListComp elt [⟨tg, iter, ifs, 0⟩, ⟨tg1, iter1, ifs1, 0⟩] scope pos) (fComp2 vs vs1 fi g ft fi1 g1 ft1 fe) := by
  subst hvs
  have hv : ∀ i ∈ vs1, i ∈ own.map (·.2) := fun i hi => by simpa using List.all_eq_true.mp hv1 i hi
  exact PE.imp (pe_lc2 hc hN hi ok hv hg ht hi1 hg1 ht1 he hs hs1) fun σ H Q h => tv_comp2 _ _ hv1 hW hW1 ho h
end
end Vl

namespace Vl
open PySem PySem.Spec PyProof.Rows L2
/-! ### math.gcd, math.lcm -/
def rLcm : List V → Hp → VK → Prop := fun vs H Q => ∃ a b : Int, vs = [.int a, .int b] ∧ a.natAbs < 2 ^ 60 ∧ b.natAbs < 2 ^ 60 ∧ Q (.int ((Nat.lcm a.natAbs b.natAbs : Nat) : Int)) H
theorem log2_lt_of {n k : Nat} (h : n < 2 ^ k) (hk : 0 < k) : n.log2 < k := by
  by_cases h0 : n = 0
  · subst h0
    show Nat.log2 0 < k
    rw [show Nat.log2 0 = 0 by rfl]
    exact hk
  · exact (Nat.log2_lt h0).mpr h
theorem cr_lcm {X : Cx} : CallR X (.builtin "math.lcm") rLcm := fun pins s σ H vs us Q I r h => by
  obtain ⟨a, b, rfl, ha, hb, q⟩ := h
  obtain ⟨t, u, rfl⟩ := Vals.int2 r
  have e : (Nat.lcm 1 a.natAbs).lcm b.natAbs = Nat.lcm a.natAbs b.natAbs := by rw [Nat.lcm_one_left]
  refine PySem.W.mg_lcm_v (c := ((Nat.lcm a.natAbs b.natAbs : Nat) : Int)) (by omega) (by omega) (by rw [e]) ?_ ⟨.int _, H, I.tok _, ⟨_, rfl⟩, q⟩
  rw [Int.natAbs_natCast]
  have h1 : Nat.lcm a.natAbs b.natAbs ≤ a.natAbs * b.natAbs := Nat.div_le_self _ _
  have h2 : a.natAbs * b.natAbs ≤ 2 ^ 60 * 2 ^ 60 := Nat.mul_le_mul (Nat.le_of_lt ha) (Nat.le_of_lt hb)
  have h3 : Nat.lcm a.natAbs b.natAbs < 2 ^ 121 := Nat.lt_of_le_of_lt (Nat.le_trans h1 h2) (by decide)
  exact Nat.lt_trans (log2_lt_of h3 (by decide)) (by decide)
def gLcm (ds : List D) : Option D := match ds with
  | [.int a, .int b] => if (decide (a.natAbs < 2 ^ 60) && decide (b.natAbs < 2 ^ 60)) = true then some (.int ((Nat.lcm a.natAbs b.natAbs : Nat) : Int)) else none
  | _ => none
def gGcd (ds : List D) : Option D := match ds with
  | [.int a, .int b] => some (.int ((Nat.gcd a.natAbs b.natAbs : Nat) : Int))
  | _ => none
theorem cs_lcm {K : PySem.W.Frag} : ClS K rLcm gLcm := ClS.here fun Z H ds vs F1 d Q rs hg q => by
  unfold gLcm at hg
  split at hg
  · rename_i a b
    split at hg
    · rename_i h
      cases hg
      rw [Bool.and_eq_true] at h
      exact ⟨a, b, rs.ints2, of_decide_eq_true h.1, of_decide_eq_true h.2, q _ (.int _)⟩
    · cases hg
  · cases hg
theorem cs_gcd {K : PySem.W.Frag} : ClS K rGcd gGcd := ClS.here fun Z H ds vs F1 d Q rs hg q => by
  unfold gGcd at hg
  split at hg
  · rename_i a b
    cases hg
    exact ⟨a, b, rs.ints2, q _ (.int _)⟩
  · cases hg
theorem pev_callF {X : Cx} {T O : List Nat} {x : Bool} {e : Expr} {es : List Expr} {fr : M (List D)} {pos p : Pos} {id : String} {y : Str} {rc : List V → Hp → VK → Prop} {gc : List D → Option D} (hc : CallR X (.builtin id) rc) (hs : ClS X.K rc gc) (hg : Gl X y) (hm : X.mg y = some (.builtin id)) (ha : PAV X T O x (e :: es) fr)
    (hdb : (y == ("__debug__" : Str)) = false := by decide) (he : starEach (e :: es) X.env = (false, eval e X.env) :: starEach es X.env := by rfl) (hpl : (backTo pos (starEach es X.env)).any (·.1) = false := by rfl) :
    PEV X T [] true (.Call (.Name y p) (e :: es) [] pos) (fCl gc fr) := PE.imp (pe_callBfun hc hg hm ha hdb he hpl) fun _ _ _ h => tv_cl hs h
end Vl

namespace Vl
open PySem PySem.Spec PyProof.Rows L2
/-! ### a law's own head -/
theorem rs_ints {K : PySem.W.Frag} {Z : Addr → Prop} {H : Hp} : ∀ ns : List Int, Rs K Z H (ns.map D.int) (ns.map V.int) []
  | [] => .nil
  | n :: r => .cons0 (.int n) (rs_ints r)
theorem law_sp {K : PySem.W.Frag} {F : FD} (h : ∀ ns : List Int, ns.length ≤ 63 → (∀ z ∈ ns, Builtin.Int.intBits z ≤ 1048576) → F [.scr (ns.map .int)] = some (.bl true, [])) (H : Hp) (a : Addr) (ns : List Int) (hl : ns.length ≤ 63) (hb : ∀ z ∈ ns, Builtin.Int.intBits z ≤ 1048576)
    (ho : Only H) (hs : SqL K H a (ns.map V.int)) : spV K 1 0 F [.ref a] H (fun v _ => v = .bl true) fun _ _ _ => False := by
  have hf : SqF K H a (ns.map V.int) := by
    rcases hs with (hs | hs) | hs
    · rcases ho a with e | ⟨o, xs, e⟩ <;> (rw [e] at hs; cases hs)
    · exact .inl hs
    · exact .inr hs
  refine ⟨fun _ => False, [.scr (ns.map .int)], fun _ => [], .bl true, [], ⟨fun i d e => ?_, fun _ => List.nodup_nil, fun _ _ _ h => (by cases h), fun _ _ h => (by cases h), fun _ h => h.elim, fun _ _ h => (by cases h), rfl⟩, fun _ _ => rfl, rfl, Nat.zero_le _, h ns hl hb, rfl, fun v H' Z' Gs' F' rel f w c => w.r.bl_inv⟩
  cases i with
  | zero => cases e; exact ⟨_, rfl, .knw hf (rs_ints ns)⟩
  | succ i => cases i <;> cases e
theorem gds_nil {K : PySem.W.Frag} : ∃ vs, Vals vs [] ∧ ∀ Z H, Rs K Z H [] vs [] := ⟨[], .nil, fun _ _ => .nil⟩
theorem gds_cons {K : PySem.W.Frag} {u : Value} {us : List Value} {d : D} {ds : List D} (h : GD K u d) (hr : ∃ vs, Vals vs us ∧ ∀ Z H, Rs K Z H ds vs []) : ∃ vs, Vals vs (u :: us) ∧ ∀ Z H, Rs K Z H (d :: ds) vs [] := by
  obtain ⟨v, h1, h2⟩ := h
  obtain ⟨vs, h3, h4⟩ := hr
  exact ⟨v :: vs, .cons h1 h3, fun Z H => .cons0 (h2 Z H) (h4 Z H)⟩
theorem GD.int {K : PySem.W.Frag} {i : Int} {t : Tok} : GD K (.int i t) (.int i) := ⟨.int i, ⟨t, rfl⟩, fun _ _ => .int i⟩
theorem GD.str {K : PySem.W.Frag} {i : Str} {t : Tok} : GD K (.str i t) (.str i) := ⟨.str i, ⟨t, rfl⟩, fun _ _ => .str i⟩
end Vl

namespace Vl
open PySem PySem.Spec PyProof.Rows L2 HT
/-! ### xs[::-1] -/
theorem fm_some {α β : Type} {f : α → Option β} {g : α → β} : ∀ l : List α, (∀ k ∈ l, f k = some (g k)) → l.filterMap f = l.map g
  | [], _ => rfl
  | a :: r, h => by
    rw [List.filterMap_cons, h a List.mem_cons_self, List.map_cons, fm_some r fun k hk => h k (List.mem_cons_of_mem _ hk)]
theorem pick_back (xs : Array Value) : ((List.range xs.size).filterMap fun (m : Nat) => xs[(((xs.size : Nat) : Int) - 1 + (m : Int) * (-1)).toNat]?) = xs.toList.reverse := by
  rw [fm_some (g := fun m => (xs[xs.size - 1 - m]?).getD .none) _ fun k hk => ?_]
  · refine List.ext_getElem (by simp) fun i h1 h2 => ?_
    have hi : i < xs.size := by simpa using h1
    rw [List.getElem_map, List.getElem_range, List.getElem_reverse]
    have e : xs[xs.size - 1 - i]? = some xs[xs.size - 1 - i] := Array.getElem?_eq_getElem (by omega)
    rw [e]
    simp
  · have hk := List.mem_range.mp hk
    have e : (((xs.size : Nat) : Int) - 1 + (k : Int) * (-1)).toNat = xs.size - 1 - k := by omega
    rw [e, Array.getElem?_eq_getElem (by omega)]
    rfl
section
variable {prog : Program} {w : World} {A : Around} {E : Value → Shared → Prop} {s : Shared}
theorem sliceApplied_back {sl : Addr} {vl vu vs : Value} {n : Nat} {Q : Int × Int × Nat → Shared → Prop} (hs : s.heap.IsSliceOf sl vl vu vs) (pl : IsPart vl none) (pu : IsPart vu none) (ps : IsPart vs (some (-1)))
    (h : Q (((n : Nat) : Int) - 1, -1, n) s) : wpAny (model prog w) A (Builtin.Slice.sliceApplied (.ref sl) (pure (n : Int))) Q E s := by
  obtain ⟨os, hos, hcs, hds⟩ := id hs
  unfold Builtin.Slice.sliceApplied Builtin.Slice.sliceFields
  refine wpAny_bind (wpAny_bind (wpAny_field hos hds (x := vl) rfl (wpAny_bind (wpAny_field hos hds (x := vu) rfl (wpAny_bind (wpAny_field hos hds (x := vs) rfl (wpAny_pure ?_)))))))
  refine wpAny_bind (slicePart_ ps ?_)
  show wpAny _ _ (if ((-1 : Int) == 0) = true then _ else _) _ _ s
  rw [if_neg (by decide)]
  refine wpAny_bind (slicePart_ pl (wpAny_bind (slicePart_ pu (wpAny_bind (wpAny_pure ?_)))))
  show wpAny _ _ (pure (((n : Nat) : Int) - 1, (-1 : Int), Builtin.Slice.slicePlaces (((n : Nat) : Int) - 1) (-1) (-1))) _ _ s
  have e : Builtin.Slice.slicePlaces (((n : Nat) : Int) - 1) (-1) (-1) = n := by
    unfold Builtin.Slice.slicePlaces
    rw [if_neg (by decide)]
    by_cases hn : n = 0
    · subst hn; rfl
    · rw [if_pos (by omega)]
      have : (((n : Nat) : Int) - 1 - -1 - 1) / (- -1) = ((n : Nat) : Int) - 1 := by
        rw [show (- -1 : Int) = 1 by decide, Int.ediv_one]; omega
      rw [this]
      omega
  rw [e]
  exact wpAny_pure h
theorem getItem_tuple_back {t sl : Addr} {items : Array Value} {vl vu vs : Value} {Q : Value → Shared → Prop} (ht : IsTup s.heap t items) (hs : s.heap.IsSliceOf sl vl vu vs) (pl : IsPart vl none) (pu : IsPart vu none) (ps : IsPart vs (some (-1)))
    (h : Q (.ref s.heap.objs.size) { s with heap := s.heap.push { cls := .type "tuple", data := .seq items.toList.reverse.toArray } })
    (hsz : items.size ≤ sizeLine) : wpAny (model prog w) A (getItem (.ref t) (.ref sl)) Q E s := by
  have htake : sizeOk (.seq items.toList.reverse.toArray) := by
    show items.toList.reverse.toArray.size ≤ sizeLine
    rw [List.size_toArray, List.length_reverse, Array.length_toList]
    exact hsz
  obtain ⟨os, hos, hcs, hds⟩ := id hs
  have hTs : s.TypeIs (.ref sl) "slice" := ⟨os, hos, hcs⟩
  unfold getItem
  try with_reducible refine wpAny_holding ?_
  first | refine wpAny_bind (wpAny_pure ?_) | skip
  refine wpAny_bind (wpAny_sequenceKey ht.typeIs (by decide) ?_)
  refine wpAny_bind (wpAny_callSpecial?_slot (name := Str.ofString "__getitem__") ht.typeIs PyProof.Rows.slot_tuple_getitem
    (wpAny_call_entry PyProof.Rows.slot_tuple_getitem ht.typeIs entry_tuple_getitem ?_ (args_tuple_getitem _ _)))
  show wpAny _ _ (Builtin.Tuple.tupleItemsOf (.ref t) >>= _) _ _ s
  refine wpAny_bind (tupleItemsOf_ ht ?_)
  refine wpAny_bind (wpAny_typeOf hTs ?_)
  rw [if_pos (by decide)]
  refine wpAny_bind (sliceApplied_back hs pl pu ps ?_)
  show wpAny _ _ (if ((((items.size : Nat) : Int) - 1 == 0 && (-1 : Int) == 1 && items.size == items.size)) = true then _ else _) _ _ s
  rw [if_neg (by simp), pick_back]
  first
    | exact wpAny_bind (m := Builtin.Tuple.tupleExact _) (wpAny_newObj_type (wpAny_pure ⟨_, rfl, wpAny_pure h⟩) htake)
    | exact wpAny_bind (m := Builtin.Tuple.tupleExact _) (wpAny_newObj_type (wpAny_bind (wpAny_pure (wpAny_pure ⟨_, rfl, wpAny_pure h⟩))) htake)
    | exact wpAny_bind (wpAny_bind (m := Builtin.Tuple.tupleExact _) (wpAny_newObj_type (wpAny_pure (wpAny_pure ⟨_, rfl, wpAny_pure h⟩)) htake))
    | exact wpAny_bind (wpAny_bind (m := Builtin.Tuple.tupleExact _) (wpAny_newObj_type (wpAny_pure ⟨_, rfl, wpAny_pure h⟩) htake))
end
section
variable {X : Cx} {T O : List Nat} {x : Bool} {e : Expr} {f : M D} {p1 p2 p3 pos : Pos} {k : Nat}
/-- a new list of a list, a new tuple of a tuple -/
def tRevS (K : PySem.W.Frag) (te : TE) : TE := fun σ H Q => te σ H fun v H1 => ∃ (a : Addr) (xs : List V), v = .ref a ∧ ((SqL K H1 a xs ∧ ∀ q, H1 q = none → Q (.ref q) (upd H1 q (.lst xs.reverse))) ∨ (SqT K H1 a xs ∧ ∀ q, H1 q = none → Q (.ref q) (upd H1 q (.tup xs.reverse))))
theorem pe_revS {te : TE} (he : PE X e te) : PE X (.Subscript e (.Slice none none (some (.UnaryOp .USub (.Constant (.int 1) k p1) p2)) p3) pos) (tRevS X.K te) := by
  refine ⟨fun pins s σ H Q I h => ?_⟩
  refine Subscript_ (thn (he.run pins s σ H _ I h) fun v s1 ⟨w0, H1, I1, r1, q1⟩ => ?_)
  obtain ⟨a, xs, ew, hx⟩ := q1
  subst ew
  obtain rfl : v = Value.ref a := r1
  have hst : PO X (some (.UnaryOp .USub (.Constant (.int 1) k p1) p2)) (tPart (tUn (rU fun i => .int (-i)) (tC (.int 1)))) := po_some (pe_un un_neg pe_int)
  refine wpAny_Slice (thn (po_none.run pins s1 σ H1 (fun o H2 => o = none ∧ H2 = H1) I1 ⟨rfl, rfl⟩) fun vl s2 ⟨l, H2, I2, pl, el, e2⟩ => ?_)
  subst el e2
  refine thn (po_none.run pins s2 σ H2 (fun o H3 => o = none ∧ H3 = H2) I2 ⟨rfl, rfl⟩) fun vu s3 ⟨u, H3, I3, pu, eu, e3⟩ => ?_
  subst eu e3
  refine thn (hst.run pins s3 σ H3 (fun o H4 => o = some (-1) ∧ H4 = H3) I3 ⟨1, rfl, -1, rfl, rfl, rfl⟩) fun vs s4 ⟨o, H4, I4, ps, eo, e4⟩ => ?_
  subst eo e4
  have I5 : Inv X pins σ H4 { s4 with heap := s4.heap.push { cls := .type "slice", data := .fields #[vl, vu, vs] } } := I4.kept (t' := s4.toks) fun b ob q => Heap.get?_push_of_some _ q
  show wpAny (model X.prog X.w) X.A (subscriptTail e (.Slice none none (some (.UnaryOp .USub (.Constant (.int 1) k p1) p2)) p3) (.ref a) (.ref s4.heap.objs.size)) (EP X pins σ Q) X.xe { s4 with heap := s4.heap.push { cls := .type "slice", data := .fields #[vl, vu, vs] } }
  rcases hx with ⟨hx, q⟩ | ⟨hx, q⟩
  · obtain ⟨its, r, ht, hz⟩ := I5.list hx
    have hlen := r.length
    refine tail_any (ops := [.ref a, .ref s4.heap.objs.size]) ht.isList.typeIs (PySem.slot_list_getitem.lookup) ?_ (by with_unfolding_all rfl)
    refine wpAny_getItem_list_slice ht.isList (Heap.IsSliceOf.new _ vl vu vs) pl pu ps (by decide) ?_ (by rw [List.size_toArray]; omega)
    rw [PySem.W.krv_pick]
    refine ⟨.ref _, _, I5.laid (t' := s4.toks) (o := .lst xs.reverse) (fun b ob q => Heap.get?_push_of_some _ q) (Nat.le_refl _) ?_, rfl, q _ (I5.hok.fresh (Nat.le_refl _))⟩
    exact ⟨by rw [List.length_reverse]; exact hz, _, 0, r.reverse, Heap.get?_push_size _ rfl⟩
  · obtain ⟨its, r, ht, hz⟩ := I5.tuple hx
    have hlen := r.length
    refine tail_any (ops := [.ref a, .ref s4.heap.objs.size]) ht.typeIs (PyProof.Rows.slot_tuple_getitem.lookup) ?_ (by with_unfolding_all rfl)
    refine getItem_tuple_back ht (Heap.IsSliceOf.new _ vl vu vs) pl pu ps ?_ (by rw [List.size_toArray]; omega)
    refine ⟨.ref _, _, I5.laid (t' := s4.toks) (o := .tup xs.reverse) (fun b ob q => Heap.get?_push_of_some _ q) (Nat.le_refl _) ?_, rfl, q _ (I5.hok.fresh (Nat.le_refl _))⟩
    exact ⟨by rw [List.length_reverse]; exact hz, _, r.reverse, IsTup.new _ _⟩
def gRevS (d : D) : Option D := match d with
  | .tup l => if D.noOwnL l = true then some (.tup l.reverse) else none
  | .lst _ l => if D.noOwnL l = true then some (.lst true l.reverse) else none
  | .scr l => if D.noOwnL l = true then some (.lst true l.reverse) else none
  | _ => none
def fRevS (f : M D) : M D := fun ρ => (f ρ).bind fun p => (gRevS p.1).bind fun d => some (d, p.2)
theorem pev_revS (he : PEV X T O x e f) : PEV X T [] true (.Subscript e (.Slice none none (some (.UnaryOp .USub (.Constant (.int 1) k p1) p2)) p3) pos) (fRevS f) := by
  refine PE.imp (pe_revS he) fun σ H Q h => ?_
  obtain ⟨Z, ρ, Fs, d, ρ', rel, hf, q⟩ := h
  unfold fRevS at hf
  obtain ⟨⟨d1, ρ1⟩, h1, hf⟩ := Option.bind_eq_some_iff.mp hf
  obtain ⟨d', h2, hf⟩ := Option.bind_eq_some_iff.mp hf
  cases hf
  refine ⟨Z, ρ, Fs, d1, _, rel, h1, fun v H' Z' Fs' F rel' f' w c => ?_⟩
  cases d1 <;> simp only [gRevS] at h2 <;> try (cases h2)
  · split at h2
    · rename_i hn
      cases h2
      obtain ⟨a, vs, e, hq, rs⟩ := w.r.tup_inv
      refine ⟨a, vs, e, .inr ⟨hq, fun p hp => ?_⟩⟩
      refine new_tup hp (rs.nil_of hn).rev0 fun v H2 F k r nd nw => ?_
      have fz := f'.trans (Frm.pureT [] k)
      rw [List.append_nil] at fz
      exact q v H2 Z' Fs' F (rel'.keep0 k) fz (Val.new rel' r nd nw) (Cf.new f'.keep nw)
    · cases h2
  · split at h2
    · rename_i hn
      cases h2
      obtain ⟨a, vs, G, e, hq, rs, _⟩ := w.r.lst_at
      refine ⟨a, vs, e, .inl ⟨hq, fun p hp => ?_⟩⟩
      refine new_list hp (rs.nil_of hn).rev0 fun v H2 F k r nd nw => ?_
      have fz := f'.trans (Frm.pureT [] k)
      rw [List.append_nil] at fz
      exact q v H2 Z' Fs' F (rel'.keep0 k) fz (Val.new rel' r nd nw) (Cf.new f'.keep nw)
    · cases h2
  · split at h2
    · cases h2
      obtain ⟨a, vs, e, _, hq, rs⟩ := w.r.scr_at
      refine ⟨a, vs, e, .inl ⟨hq, fun p hp => ?_⟩⟩
      refine new_list hp rs.rev0 fun v H2 F k r nd nw => ?_
      have fz := f'.trans (Frm.pureT [] k)
      rw [List.append_nil] at fz
      exact q v H2 Z' Fs' F (rel'.keep0 k) fz (Val.new rel' r nd nw) (Cf.new f'.keep nw)
    · cases h2
end
end Vl

namespace Vl
open PySem PySem.Spec PyProof.Rows L2 HT
/-! ### a, b, c = a list -/
section
variable {prog : Program} {w : World} {A : Around} {E : Value → Shared → Prop} {s : Shared}
theorem drawL {it l : Addr} {items : Array Value} (hne : l ≠ it) : ∀ (n i : Nat) (s : Shared) (Q : List Value → Shared → Prop), s.heap.IsListIter it l i → s.heap.IsList l items → i + n ≤ items.size →
    (∀ h' : Heap, h'.IsListIter it l (i + n) → Heap.SameBut it s.heap h' → Q ((items.toList.drop i).take n) { s with heap := h' }) → wpAny (model prog w) A (draw (.ref it) n) Q E s
  | 0, i, s, Q, hi, _, _, hQ => by
    show wpAny _ _ (pure []) Q E s
    have := hQ s.heap hi (Heap.SameBut.refl ..)
    rw [List.take_zero] at this
    exact wpAny_pure this
  | n + 1, i, s, Q, hi, hl, hle, hQ => by
    have hlt : i < items.size := by omega
    show wpAny _ _ (pyNext (.ref it) >>= _) Q E s
    refine wpAny_bind (wpAny_pyNext_list_item hi hl (x := items[i]) (by simp [hlt]) fun h1 i1 s1 => ?_)
    refine wpAny_bind (wpAny_holding (drawL hne n (i + 1) _ _ i1 (hl.extBut s1.extBut hne) (by omega) fun h2 i2 s2 => wpAny_pure ?_))
    have q := hQ h2 (by rw [Nat.add_comm n 1, ← Nat.add_assoc]; exact i2) (s1.trans s2)
    have hd : items.toList.drop i = items[i] :: items.toList.drop (i + 1) := by simp [List.drop_eq_getElem_cons, hlt]
    rwa [hd, List.take_succ_cons] at q
theorem unpackItemsL {l : Addr} {items : Array Value} {Q : List Value → Shared → Prop} (hh : A.handled = none) (hl : s.heap.IsList l items)
    (hQ : ∀ h', Heap.ExtBut s.heap.objs.size s.heap h' → Q items.toList { s with heap := h' }) : wpAny (model prog w) A (unpackItems (.ref l) items.size none) Q E s := by
  have hne : l ≠ s.heap.objs.size := by
    obtain ⟨o, ho, _⟩ := hl
    exact Nat.ne_of_lt (Heap.lt_size ho)
  unfold unpackItems
  refine wpAny_bind ?_
  unfold notIterableAtAll
  refine wpAny_bind (wpAny_specialOf hl.typeIs slot_list_iter.lookup ?_)
  refine wpAny_pure ?_
  rw [if_neg Bool.false_ne_true]
  refine wpAny_bind (wpAny_holding (wpAny_pyIter_list hl ?_))
  refine wpAny_bind (wpAny_holding (drawL hne items.size 0 _ _ ⟨_, Heap.get?_push_size _ rfl, rfl, rfl⟩ (hl.push _) (by omega) fun h1 i1 s1 => ?_))
  have hall : (items.toList.drop 0).take items.size = items.toList := by
    rw [List.drop_zero]
    exact List.take_of_length_le (by simp)
  rw [hall]
  rw [if_neg (by simp)]
  have l1 : h1.IsList l items := (hl.push _).extBut s1.extBut hne
  refine wpAny_bind (wpAny_holding (wpAny_pyNext_list_end hh i1 l1 (by simp) fun h2 e2 => ?_))
  simp only [Option.isSome_none, Bool.false_eq_true, if_false]
  exact wpAny_pure (hQ h2 fun b o hb e => e2 b o hb (s1.extBut b o hb (Heap.get?_push_of_some _ e)))
theorem assign_Tuple_list {env : PySem.Env} {elts : List Expr} {x1} {pos : Pos} {l : Addr} {items : Array Value} {Q : Unit → Shared → Prop} (hh : A.handled = none) (hl : s.heap.IsList l items)
    (hn : (assignEach elts env).length = items.size) (hstar : (assignEach elts env).findIdx? (·.1) = none)
    (h : ∀ h', Heap.ExtBut s.heap.objs.size s.heap h' → wpAny (model prog w) A (assignInOrder ((assignEach elts env).map (·.2)) items.toList) Q E { s with heap := h' }) :
    wpAny (model prog w) A (assign (.Tuple elts x1 pos) env (.ref l)) Q E s := by
  rw [assign_Tuple]
  refine wpAny_bind (wpAny_standAt ?_)
  unfold unpack
  rw [hn, hstar]
  exact wpAny_bind (wpAny_holding (unpackItemsL hh hl h))
/-! ### t += u of tuples -/
theorem noI_tuple_add : typeLookup (.type "tuple") (dunderI "add") = pure none := by rw [typeLookup_type, builtinLookup_eq_fast]; kernel_rfl
theorem iconcat_meets {T id : String} {B : Builtin} {a b : Value} {S : PySem.Spec} {Q : Value → Shared → Prop} (ha : s.TypeIs a T) (hb : s.TypeIs b T) (hno : typeLookup (.type T) (dunderI "add") = pure none)
    (hfill : fillsNumberSlot (.type T) "add" = pure false) (hseq : seqSlot? (.type T) "__add__" = pure (some (.builtin id))) (slot : PySem.Slot T "__add__" id)
    (entry : entryFor table id = some B) (args : argsOk id ⟨[a, b], []⟩) (g : Meets (B ⟨[a, b], []⟩) S) (h : S A (wants Q E) s) : wpAny (model prog w) A (inplaceOp .Add a b) Q E s :=
  wpAny_inplaceOp_concat ha hb hno hfill hseq (call_meets slot ha entry args g h)
theorem icat_tup {t b : Addr} {vs ws : List Value} {Q : Value → Shared → Prop} (ht : IsTup s.heap t vs.toArray) (hb : IsTup s.heap b ws.toArray)
    (h0 : vs = [] → Q (.ref b) s) (h1 : vs ≠ [] → ws = [] → Q (.ref t) s) (h2 : vs ≠ [] → ws ≠ [] → Q (.ref s.heap.objs.size) { s with heap := s.heap.push { cls := .type "tuple", data := .seq (vs ++ ws).toArray } })
    (hsz : vs.length + ws.length ≤ sizeLine) : wpAny (model prog w) A (inplaceOp .Add (.ref t) (.ref b)) Q E s := by
  obtain ⟨⟨cls, dd, data, sl⟩, ho, hc, n, hd⟩ := id ht
  obtain ⟨⟨cls2, dd2, data2, sl2⟩, ho2, hc2, n2, hd2⟩ := id hb
  simp only at hc hd hc2 hd2
  subst hc hd hc2 hd2
  have e : vs.toArray ++ ws.toArray = (vs ++ ws).toArray := by simp
  by_cases hv : vs = []
  · exact iconcat_meets ⟨_, ho, rfl⟩ ⟨_, ho2, rfl⟩ noI_tuple_add noFill_tuple_add seq_tuple_add PySem.F.slot_tuple_add PySem.F.entry_tuple_add (PySem.F.args_tuple_add_2 _ _)
      (tuple_addW0 t b vs.toArray ws.toArray n n2 dd dd2 sl sl2 (by simp [hv])) ⟨ho, ho2, h0 hv⟩
  · by_cases hw : ws = []
    · exact iconcat_meets ⟨_, ho, rfl⟩ ⟨_, ho2, rfl⟩ noI_tuple_add noFill_tuple_add seq_tuple_add PySem.F.slot_tuple_add PySem.F.entry_tuple_add (PySem.F.args_tuple_add_2 _ _)
        (tuple_addW1 t b vs.toArray ws.toArray n n2 dd dd2 sl sl2 (by simpa using hv) (by simp [hw])) ⟨ho, ho2, h1 hv hw⟩
    · refine iconcat_meets ⟨_, ho, rfl⟩ ⟨_, ho2, rfl⟩ noI_tuple_add noFill_tuple_add seq_tuple_add PySem.F.slot_tuple_add PySem.F.entry_tuple_add (PySem.F.args_tuple_add_2 _ _)
        (tuple_addW2 t b vs.toArray ws.toArray n n2 dd dd2 sl sl2 (by simpa using hv) (by simpa using hw) (by rw [List.size_toArray, List.size_toArray]; exact hsz)) ⟨ho, ho2, ?_⟩
      rw [e]
      exact h2 hv hw
end
section
variable {X : Cx} {T T1 T2 O W W1 : List Nat} {x : Bool} {e : Expr} {f : M D} {gs : List D → Env → Option Env} {pos : Pos}
theorem nil_of_len0 {α β : Type} {l : List α} {m : List β} (h : l.length = m.length) : l = [] ↔ m = [] := by
  constructor
  · intro z; subst z; exact List.eq_nil_of_length_eq_zero h.symm
  · intro z; subst z; exact List.eq_nil_of_length_eq_zero h
theorem iop_catA : PIp X .Add (rCatA X.K) := by
  intro pins s σ H x y v u Q I rx ry h
  obtain ⟨a, b, xs, ys, rfl, rfl, ha, hb, hz, q0, q1, q2⟩ := h
  cases rx
  cases ry
  obtain ⟨its, r1, p1, _⟩ := I.tuple ha
  obtain ⟨its2, r2, p2, _⟩ := I.tuple hb
  refine icat_tup p1 p2 (fun z => ?_) (fun z z2 => ?_) (fun z z2 => ?_) (by rw [← r1.length, ← r2.length]; exact hz)
  · exact ⟨.ref b, H, I, rfl, q0 ((nil_of_len0 r1.length).mpr z)⟩
  · exact ⟨.ref a, H, I, rfl, q1 (fun z3 => z ((nil_of_len0 r1.length).mp z3)) ((nil_of_len0 r2.length).mpr z2)⟩
  · refine ⟨.ref s.heap.objs.size, _, I.laid (t' := s.toks) (o := .tup (xs ++ ys)) (fun b ob q => Heap.get?_push_of_some _ q) (Nat.le_refl _) ?_, rfl,
      q2 (fun z3 => z ((nil_of_len0 r1.length).mp z3)) (fun z3 => z2 ((nil_of_len0 r2.length).mp z3)) _ (I.hok.fresh (Nat.le_refl _))⟩
    exact ⟨by rw [List.length_append]; exact hz, _, r1.append r2, IsTup.new _ _⟩
abbrev ipAddT (K : PySem.W.Frag) : TIp := fun x y H Q => ipI (fun i j => i + j) x y H Q ∨ rCatA K x y H Q
theorem ip_addT : PIp X .Add (ipAddT X.K) := by
  intro pins s σ H x y v u Q I rx ry h
  rcases h with h | h
  · exact ip_add pins s σ H x y v u Q I rx ry h
  · exact iop_catA pins s σ H x y v u Q I rx ry h
def gAddT (d e : D) : Option D := match d, e with
  | .int i, .int j => some (.int (i + j))
  | .tup a, .tup b => if (szOk (a.length + b.length) && D.noOwnL a && D.noOwnL b) = true then some (.tup (a ++ b)) else none
  | _, _ => none
theorem os_addT {K : PySem.W.Frag} : OpS K (ipAddT K) gAddT := fun Z H d1 d2 v1 v2 F1 F2 d Q r1 r2 hg q => by
  unfold gAddT at hg
  split at hg
  · cases hg
    exact .inl ⟨_, _, r1.int_inv, r2.int_inv, same_val (.int _) q⟩
  · split at hg
    · rename_i h
      cases hg
      rw [Bool.and_eq_true, Bool.and_eq_true] at h
      obtain ⟨a, vs, rfl, ha, ra⟩ := r1.tup_tr
      obtain ⟨b, ws, rfl, hb, rb⟩ := r2.tup_tr
      have ra := ra.nil_of h.1.2
      have rb := rb.nil_of h.2
      refine .inr ⟨a, b, vs, ws, rfl, rfl, SqT.of ha, SqT.of hb, by rw [← ra.length, ← rb.length]; exact sz_of h.1.1, fun e => ?_, fun _ e => ?_, fun _ _ p hp => new_tup hp (ra.app rb) q⟩
      · have e2 := List.eq_nil_of_length_eq_zero (ra.length.trans (by rw [e]; rfl))
        rw [e2, List.nil_append] at q
        exact same_val (.tup hb rb) q
      · have e2 := List.eq_nil_of_length_eq_zero (rb.length.trans (by rw [e]; rfl))
        rw [e2, List.append_nil] at q
        exact same_val (.tup ha ra) q
    · cases hg
  · cases hg
/-! the rule for a, b, c = xs -/
def gLstT (K : PySem.W.Frag) (n : Nat) (t : TGs) : TG := fun v σ H Q => ∃ a xs, v = .ref a ∧ ((SqL K H a xs ∧ xs.length = n ∧ t xs σ H Q) ∨ (SqT K H a xs ∧ xs.length = n ∧ t xs σ H Q))
theorem pg_lst {es : List Expr} {k : Nat} {t : TGs} {n : Nat} (hc : X.calm = true) (h : PGs X es t)
    (hn : (assignEach es X.env).length = n := by rfl) (hst : (assignEach es X.env).findIdx? (·.1) = none := by rfl) : PG X (.Tuple es k pos) (gLstT X.K n t) := by
  refine ⟨fun pins s σ H v u Q I r hw => ?_⟩
  obtain ⟨a, xs, e1, hw⟩ := hw
  subst e1
  cases r
  rcases hw with ⟨hq, hl, hw⟩ | ⟨hq, hl, hw⟩
  · obtain ⟨its, rv, ht, hz⟩ := I.list hq
    refine assign_Tuple_list (I.ok.hd hc) ht.isList (by simp [hn, ← hl, rv.length]) hst fun h' hx => ?_
    have I1 : Inv X pins σ H { s with heap := h' } := I.kept (t' := s.toks) fun b o e => hx b o (Nat.ne_of_lt (Heap.lt_size e)) e
    exact h.run pins _ σ H xs _ Q I1 (by simpa using rv) hw
  · obtain ⟨its, rv, ht, hz⟩ := I.tuple hq
    refine assign_Tuple_tuple (I.ok.hd hc) ht (by simp [hn, ← hl, rv.length]) hst fun h' hx => ?_
    have I1 : Inv X pins σ H { s with heap := h' } := I.kept (t' := s.toks) fun b o e => hx b o (Nat.ne_of_lt (Heap.lt_size e)) e
    exact h.run pins _ σ H xs _ Q I1 (by simpa using rv) hw
def sUnp (n : Nat) (gs : List D → Env → Option Env) (f : M D) : MS := fun ρ => (f ρ).bind fun p => match p.1 with
  | .tup l => if (l.length == n && D.noOwnL l) = true then (gs l p.2).bind fun ρ' => some (.nx ρ') else none
  | .lst _ l => if (l.length == n && D.noOwnL l) = true then (gs l p.2).bind fun ρ' => some (.nx ρ') else none
  | _ => none
theorem psv_unp {es : List Expr} {k : Nat} {n : Nat} (hc : X.calm = true) (he : PEV X T1 O x e f) (h : PGsV X W T2 es gs) (hn : (assignEach es X.env).length = n := by rfl) (hst : (assignEach es X.env).findIdx? (·.1) = none := by rfl)
    (hs : swapsWithSole [.Tuple es k p2] e pos.line X.env = pure false := by rfl) (hw : swappedStores [.Tuple es k p2] e X.env = pure none := by rfl) (h1 : (assignEach [.Tuple es k p2] X.env).map (·.2) = [assign (.Tuple es k p2) X.env] := by rfl) :
    PSV X W (T1 ++ T2) (.Assign [.Tuple es k p2] e pos) (sUnp n gs f) := by
  refine PS.imp (ps_asg he (pg_lst hc h hn hst) hs hw h1) fun D σ H h => ?_
  obtain ⟨Z, ρ, Fs, r, rel, hf, h1, h2, h3, h4⟩ := h
  unfold sUnp at hf
  obtain ⟨⟨d, ρ1⟩, hp, hf⟩ := Option.bind_eq_some_iff.mp hf
  cases d <;> simp only at hf <;> try (cases hf)
  · split at hf
    · rename_i hn
      obtain ⟨ρ2, h5, hf⟩ := Option.bind_eq_some_iff.mp hf
      cases hf
      rw [Bool.and_eq_true, beq_iff_eq] at hn
      refine ⟨Z, ρ, Fs, _, ρ1, rel, hp, fun v H' Z' Fs' F rel' f' w c => ?_⟩
      obtain ⟨a, vs, e, hq, rs⟩ := w.r.tup_inv
      have rs := rs.nil_of hn.2
      exact ⟨a, vs, e, .inr ⟨hq, by rw [← rs.length]; exact hn.1, Z', ρ1, Fs', _, ρ2, rel', rs, h5, fun σ2 H2 Z2 Fs2 fn2 => h1 _ rfl _ _ _ _ ((Fin.of rel' f').trans fn2)⟩⟩
    · cases hf
  · split at hf
    · rename_i hn
      obtain ⟨ρ2, h5, hf⟩ := Option.bind_eq_some_iff.mp hf
      cases hf
      rw [Bool.and_eq_true, beq_iff_eq] at hn
      refine ⟨Z, ρ, Fs, _, ρ1, rel, hp, fun v H' Z' Fs' F rel' f' w c => ?_⟩
      obtain ⟨a, vs, G, e, hq, rs, _⟩ := w.r.lst_at
      have rs := rs.nil_of hn.2
      exact ⟨a, vs, e, .inl ⟨hq, by rw [← rs.length]; exact hn.1, Z', ρ1, Fs', _, ρ2, rel', rs, h5, fun σ2 H2 Z2 Fs2 fn2 => h1 _ rfl _ _ _ _ ((Fin.of rel' f').trans fn2)⟩⟩
    · cases hf
theorem pev_ifX {c a b : Expr} {ft : M Bool} {fa fb : M D} (hc : PTV X T c ft) (ha : PEV X T1 [] true a fa) (hb : PEV X T2 [] true b fb) : PEV X (T ++ (T1 ++ T2)) [] true (.IfExp c a b pos) (fIf ft fa fb) := pev_if hc ha hb
end
end Vl

namespace Vl
open PySem PySem.Spec PyProof.Rows L2
/-! ### tuples of which the whole object is known; t.index(i) -/
def rTupX (K : PySem.W.Frag) : List V → Hp → VK → Prop := fun xs H Q => ∃ a ys, xs = [.ref a] ∧ SqL K H a ys ∧ ∀ p o, o.cls = .type "tuple" → o.dict = none → H p = none → Q (.ref p) (upd H p (.frz o (.tup ys)))
theorem cr_tupX {X : Cx} : CallR X (.type "tuple") (rTupX X.K) := by
  intro pins s σ H xs us Q I r h
  obtain ⟨a, ys, rfl, hq, q⟩ := h
  obtain ⟨u, rfl, ru⟩ := vals1 r
  cases ru
  obtain ⟨its, rv, pl, hz⟩ := I.list hq
  have hl := rv.length
  refine call_tuple_list pl.isList (fun h' kp => ?_) (by rw [List.size_toArray]; omega)
  have J : Inv X pins σ H { s with heap := h' } := I.kept (t' := s.toks) kp
  have e := Heap.get?_push_size h' (o := ({ cls := .type "tuple", data := .seq its.toArray } : Obj)) rfl
  refine ⟨.ref h'.objs.size, _, J.laid (t' := s.toks) (fun b o z => Heap.get?_push_of_some _ z) (Nat.le_refl _) (o := .frz { cls := .type "tuple", data := .seq its.toArray } (.tup ys)) ⟨e, ⟨hz, its, rv, _, e, rfl, _, rfl⟩⟩, rfl, q _ _ rfl rfl (J.hok.fresh (Nat.le_refl _))⟩
def gTupX : List D → Option D
  | [.lst _ l] => if D.noOwnL l = true then some (.xt l) else none
  | _ => none
theorem cs_tupX {K : PySem.W.Frag} : ClS K (rTupX K) gTupX := fun Z H ds vs F1 d Q rs hg q => by
  unfold gTupX at hg
  split at hg
  · split at hg
    · rename_i hn
      cases hg
      obtain ⟨v, rfl, r⟩ := rs.one_inv
      obtain ⟨a, ws, G, rfl, ha, r2, _⟩ := r.lst_at
      refine ⟨a, ws, rfl, ha, fun p o h1 h2 hp => ?_⟩
      have k : Keep M0 H (upd H p (.frz o (.tup ws))) := Keep.new hp
      exact q _ _ [] k (.xt upd_same h1 h2 ((r2.nil_of hn).keep0 k)) List.nodup_nil fun a ha => (by cases ha)
    · cases hg
  · cases hg
/-- known for good, without a dict -/
def tyXt (x : V) (H : Hp) : Prop := ∃ a o vs, x = .ref a ∧ H a = some (.frz o (.tup vs)) ∧ o.cls = .type "tuple" ∧ o.dict = none
theorem ty_xt {X : Cx} : TyOk X "tuple" tyXt := by
  intro pins σ H s x v I r t
  obtain ⟨a, o, vs, rfl, h, h1, h2⟩ := t
  cases r
  obtain ⟨e, _⟩ := I.hok a _ h
  refine ⟨⟨o, e, h1⟩, fun b z => ?_⟩
  cases z
  exact ⟨o, e, h2⟩
def rIxT (K : PySem.W.Frag) : V → List V → Hp → VK → Prop := fun x xs H Q => ∃ (a : Addr) (ys : List Int) (z : Int) (j : Nat), x = .ref a ∧ xs = [.int z] ∧ SqT K H a (ys.map V.int) ∧ ys[j]? = some z ∧ (∀ m, m < j → ys[m]? ≠ some z) ∧ Q (.int (j : Nat)) H
theorem flat_ints (ys : List Int) : (ys.map V.int).all flatV = true := by
  rw [List.all_map]
  exact List.all_eq_true.mpr fun _ _ => rfl
theorem mt_ixT {X : Cx} : MtR X "tuple.index" (rIxT X.K) := by
  intro pins s σ H x xs v us Q I rx rs h
  obtain ⟨a, ys, z, j, rfl, rfl, hq, hy, hno, q⟩ := h
  cases rx
  obtain ⟨u, rfl, t, rfl⟩ := vals1 rs
  obtain ⟨its, r, ⟨⟨cls, dd, dt, sl⟩, ho, hc, n, hd⟩, hz⟩ := I.tuple hq
  simp only at hc hd
  subst hc hd
  have hl : its.toArray.size = ys.length := by rw [List.size_toArray, ← r.length, List.length_map]
  have at' : ∀ (m : Nat) (hm : m < its.toArray.size), ∃ y t', ys[m]? = some y ∧ its.toArray[m] = Value.int y t' := fun m hm => by
    have hm2 : m < ys.length := by rw [← hl]; exact hm
    obtain ⟨w, hw, t', e⟩ := r.get (i := m) (x := .int ys[m]) (by rw [List.getElem?_map, List.getElem?_eq_getElem hm2]; rfl)
    obtain ⟨_, e2⟩ := List.getElem?_eq_some_iff.mp hw
    exact ⟨ys[m], t', List.getElem?_eq_getElem hm2, by rw [← e, ← e2]; simp⟩
  have hj : j < its.toArray.size := by rw [hl]; exact (List.getElem?_eq_some_iff.mp hy).1
  refine call_meets PySem.F.slot_tuple_index ⟨_, ho, rfl⟩ PySem.F.entry_tuple_index (PySem.F.args_tuple_index_2 _ _) (TI.tuple_indexAt a its.toArray n dd sl (.int z t) (eqU (.int z)) j hj ?_ ?_)
    ⟨ho, fun w hw => mem_eqAt (x := .int z) ⟨t, rfl⟩ rfl r (flat_ints ys) w (by simpa using hw), ⟨.int (j : Nat), H, I.tok _, ⟨_, rfl⟩, q⟩⟩
  · obtain ⟨y, t', h1, h2⟩ := at' j hj
    rw [hy] at h1
    cases h1
    rw [h2]
    show (z == z) = true
    exact beq_self_eq_true z
  · intro m hm hmj
    obtain ⟨y, t', h1, h2⟩ := at' m hm
    rw [h2]
    show (y == z) = false
    exact beq_eq_false_iff_ne.mpr fun e => hno m hmj (e ▸ h1)
/-- the place of the first that is z -/
def ixD (z : Int) : List D → Option Nat
  | [] => none
  | .int y :: r => if y = z then some 0 else (ixD z r).map (· + 1)
  | _ :: _ => none
def intsD : List D → Option (List Int)
  | [] => some []
  | .int y :: r => (intsD r).map (y :: ·)
  | _ :: _ => none
def gIxT (d e : D) : Option D := match d, e with
  | .xt l, .int z => (intsD l).bind fun ys => if z ∈ ys then some (.int ((ys.idxOf z : Nat) : Int)) else none
  | _, _ => none
theorem Rs.intsD {K : PySem.W.Frag} {Z : Addr → Prop} {H : Hp} : ∀ {l : List D} {ys : List Int} {vs : List V} {F : List Addr}, Rs K Z H l vs F → intsD l = some ys → vs = ys.map V.int
  | [], ys, _, _, r, h => by cases r; cases h; rfl
  | d :: l, ys, _, _, .cons r rs, h => by
    cases d <;> try (cases h)
    rename_i y
    simp only [Vl.intsD] at h
    obtain ⟨zs, h1, rfl⟩ := Option.map_eq_some_iff.mp h
    rw [r.int_inv, Rs.intsD rs h1]
    rfl
theorem idxOf_at {z : Int} : ∀ {ys : List Int}, z ∈ ys → ys[ys.idxOf z]? = some z ∧ ∀ m, m < ys.idxOf z → ys[m]? ≠ some z
  | [], h => (by cases h)
  | y :: r, h => by
    by_cases e : y = z
    · subst e
      rw [List.idxOf_cons_self]
      exact ⟨rfl, fun m hm => absurd hm (Nat.not_lt_zero _)⟩
    · have hr : z ∈ r := (List.mem_cons.mp h).resolve_left fun q => e q.symm
      obtain ⟨h1, h2⟩ := idxOf_at hr
      have q : (y :: r).idxOf z = r.idxOf z + 1 := by rw [List.idxOf_cons, beq_eq_false_iff_ne.mpr e]; rfl
      rw [q]
      refine ⟨h1, fun m hm => ?_⟩
      cases m with
      | zero => intro q; exact e (Option.some.inj q)
      | succ m => exact h2 m (Nat.lt_of_succ_lt_succ hm)
section
variable {X : Cx} {T T1 T2 O O1 O2 : List Nat} {x x1 x2 : Bool} {o e : Expr} {f fa fb : M D} {apos cpos : Pos}
theorem pev_ixT (ho : PEV X T1 O1 x1 o fa) (he : PEV X T2 O2 x2 e fb) (hbase : attributeBase o "index" X.env (eval o X.env) = eval o X.env := by rfl)
    (hfew : ((backTo cpos (starEach (e :: []) X.env)).all (fun x => !x.1) && (backToKw cpos (keywordEach [] X.env)).all (fun x => x.1.isSome)
      && decide ((e :: []).length + ([] : List Keyword).length + (if ([] : List Keyword).isEmpty then 0 else 1) < 30)) = true := by rfl)
    (hline : (apos.endLine == cpos.line) = true := by rfl) (hs : starEach (e :: []) X.env = (false, eval e X.env) :: starEach [] X.env := by rfl) (hplain : (backTo cpos (starEach [] X.env)).any (·.1) = false := by rfl) :
    PEV X (T1 ++ T2) [] true (.Call (.Attribute o "index" apos) [e] [] cpos) (fOp O1 T2 gIxT fa fb) := by
  refine PE.imp (pe_mG ty_xt PySem.F.plainAttrs_tuple PySem.F.slot_tuple_index (by rfl) mt_ixT ho (pa_cons he pa_nil hs) hbase hfew hline hs hplain) fun σ H Q h => ?_
  obtain ⟨Z, ρ, Fs, d, ρ', rel, hf, q⟩ := h
  unfold fOp at hf
  obtain ⟨⟨d1, ρ1⟩, h1, hf⟩ := Option.bind_eq_some_iff.mp hf
  obtain ⟨⟨d2, ρ2⟩, h2, hf⟩ := Option.bind_eq_some_iff.mp hf
  split at hf
  · rename_i hsf
    obtain ⟨d', h3, hf⟩ := Option.bind_eq_some_iff.mp hf
    cases hf
    simp only [gIxT] at h3
    split at h3
    · rename_i l z _ _
      obtain ⟨ys, hi, h3⟩ := Option.bind_eq_some_iff.mp h3
      split at h3
      · rename_i hz
        cases h3
        refine ⟨Z, ρ, Fs, .xt l, ρ1, rel, h1, fun v1 H1 Z1 Fs1 F1 rel1 f1 w1 c1 => ⟨?_, Z1, ρ1, Fs1, .int z, _, rel1, h2, fun v2 H2 Z2 Fs2 F2 rel2 f2 w2 c2 => ?_⟩⟩
        · cases w1.r with
          | xt a1 a2 a3 a4 => exact ⟨_, _, _, rfl, a1, a2, a3⟩
        · have w1' := (w1.keep rel1 f2 hsf).r
          obtain rfl := w2.r.int_inv
          obtain ⟨i1, i2⟩ := idxOf_at hz
          cases w1' with
          | xt a1 a2 a3 a4 =>
            have e := a4.intsD hi
            subst e
            exact ⟨_, ys, z, _, rfl, rfl, .inl (.inr ⟨_, a1⟩), i1, i2, q _ H2 Z2 Fs2 [] rel2 (f1.trans f2) ⟨.int _, fun _ _ h => (by cases h), fun _ => ⟨List.nodup_nil, fun _ h => (by cases h)⟩⟩ Cf.nil⟩
      · cases h3
    · cases h3
  · cases hf
/-- an exact tuple taken as a tuple -/
def fFg (f : M D) : M D := fun ρ => (f ρ).bind fun p => some (p.1.fg, p.2)
theorem pev_fg (h : PEV X T O x e f) : PEV X T O x e (fFg f) := by
  refine PE.imp h fun σ H Q h => ?_
  obtain ⟨Z, ρ, Fs, d, ρ', rel, hf, q⟩ := h
  unfold fFg at hf
  obtain ⟨⟨d1, ρ1⟩, h1, hf⟩ := Option.bind_eq_some_iff.mp hf
  cases hf
  exact ⟨Z, ρ, Fs, d1, _, rel, h1, fun v H' Z' Fs' F rel' f' w c => q v H' Z' Fs' F rel' f' ⟨w.r.fg, w.ori, w.exc⟩ c⟩
end
end Vl

/-! ### dicts with tuple keys whose values are ints: ==, != -/
namespace Vl
open PySem PySem.Calls PyProof.Rows PyProof.V PySem.Spec L2
def ivT : Value → Int
  | .int i _ => i
  | _ => 0
abbrev ET := List Key × Addr × Value
/-- the entry's key is there too, with an equal number -/
def hitT (xb : List ET) (p : ET) : Bool := match atKey xb p.1 with
  | some q => decide (ivT p.2.2 = ivT q.2)
  | none => false
def resT (xa xb : List ET) : Bool := xa.length == xb.length && xa.all (hitT xb)
def IntsT (xs : List ET) : Prop := ∀ p ∈ xs, ∃ i t, p.2.2 = Value.int i t
section
variable {prog : Program} {w : World} {A : Around} {E : Value → Shared → Prop} {s : Shared}
theorem atKey_int {xs : List ET} (h : IntsT xs) {k : List Key} {q : Addr × Value} (e : atKey xs k = some q) : ∃ i t, q.2 = Value.int i t := by
  unfold atKey at e
  obtain ⟨p, hp, rfl⟩ := Option.map_eq_some_iff.mp e
  exact h p (List.mem_of_find?_eq_some hp)
theorem sameT {nm : String} {a b : Addr} {xa xb : List ET} {Q : Bool → Shared → Prop} (hu : A.units < cLine) (ha : (a == sysModules) = false) (hb : (b == sysModules) = false)
    (da : s.heap.DictOfH (tupleKind (mixKind prog w)) a xa) (db : s.heap.DictOfH (tupleKind (mixKind prog w)) b xb) (ia : IntsT xa) (ib : IntsT xb) (h : Q (resT xa xb) s) :
    wpAny (model prog w) A (Builtin.Dict.samePairs nm a b) Q E s := by
  obtain ⟨oa, es, ep, hoa, _, hda, hea, hka, hna⟩ := da
  obtain ⟨ob, fs, ep', hob, _, hdb, heb, hkb, hnb⟩ := db
  have la := size_of_entries hea
  have lb := size_of_entries heb
  unfold Builtin.Dict.samePairs Builtin.Dict.showsAll
  rw [if_neg (show ¬ (a == sysModules) = true by rw [ha]; exact Bool.false_ne_true), if_neg (show ¬ (b == sysModules) = true by rw [hb]; exact Bool.false_ne_true)]
  refine wpAny_bind (wpAny_pure (wpAny_bind (wpAny_pure ?_)))
  refine wpAny_bind (wpAny_dictEntries hoa hda ?_)
  dsimp only
  refine wpAny_bind (wpAny_dictEntries hob hdb ?_)
  unfold resT at h
  by_cases hsz : es.size = fs.size
  · rw [if_neg (by rw [hsz]; simp)]
    have hl : (xa.length == xb.length) = true := by rw [← la, ← lb, hsz]; simp
    rw [hl, Bool.true_and] at h
    refine wpAny_bind (wpAny_dictEpoch hoa hda ?_)
    refine wpAny_bind ?_
    rw [Std.Legacy.Range.forIn_eq_forIn_range']
    simp only [Std.Legacy.Range.size, Nat.sub_zero, Nat.add_sub_cancel, Nat.div_one]
    refine wpAny_forIn_list _ (fun rest q z => z = s ∧ q = (none, ()) ∧ ∃ i, i ≤ es.size ∧ rest = List.range' i (es.size - i) ∧ ∀ j p, j < i → xa[j]? = some p → hitT xb p = true) _ ?_ ?_ _ _ ⟨rfl, rfl, 0, Nat.zero_le _, by simp, fun j p z => absurd z (Nat.not_lt_zero j)⟩
    · intro x rest q z hz
      obtain ⟨e1, e2, i, hi, hr, hpre⟩ := hz
      subst e1 e2
      have hlt : i < es.size := Nat.lt_of_not_le fun c => by rw [Nat.sub_eq_zero_of_le c] at hr; cases hr
      rw [show es.size - i = es.size - (i + 1) + 1 by omega, List.range'_succ] at hr
      obtain ⟨e3, hrest⟩ := List.cons.inj hr
      subst e3
      obtain ⟨⟨k, c, v⟩, hx⟩ : ∃ p, xa[x]? = some p := ⟨xa[x]'(by omega), List.getElem?_eq_getElem (by omega)⟩
      have hex : es[x]? = some ⟨(tupleKind (mixKind prog w)).hash k, .ref c, v⟩ := by rw [entry_at hea x, hx]; rfl
      have hkc := hka _ (List.mem_of_getElem? hx)
      obtain ⟨n, t, hv⟩ := ia _ (List.mem_of_getElem? hx)
      have hv : v = .int n t := hv
      subst hv
      refine wpAny_bind (wpAny_dictEntries hoa hda ?_)
      rw [hex]
      show wpAny _ _ (holding [Value.ref c, Value.int n t] _ >>= _) _ _ _
      refine wpAny_bind (wpAny_holding (wpAny_bind (wpAny_dictFind_heap (k := k) hu hkc hob hdb heb hkb hnb (fun hno => ?_) fun j p hj => ?_)))
      · have hm : hitT xb (k, c, .int n t) = false := by
          unfold hitT
          rw [show atKey xb k = none from atKey_none_of_get hno]
        refine wpAny_pure ?_
        show wpAny _ _ (if (!false) = true then _ else _) _ _ _
        rw [if_pos (by decide)]
        refine wpAny_pure (wpAny_pure ?_)
        have : xa.all (hitT xb) = false := List.all_eq_false.mpr ⟨_, List.mem_of_getElem? hx, by rw [hm]; exact Bool.false_ne_true⟩
        rw [this] at h
        exact h
      · obtain ⟨cb, vb⟩ := p
        have hat : atKey xb k = some (cb, vb) := atKey_of_get hnb hj
        obtain ⟨m, u, hvb⟩ := atKey_int ib hat
        have hvb : vb = .int m u := hvb
        subst hvb
        have hm : hitT xb (k, c, .int n t) = decide (n = m) := by
          unfold hitT
          rw [show atKey xb (k, c, Value.int n t).1 = some (cb, .int m u) from hat]
          rfl
        refine wpAny_bind (wpAny_dictEntries hob hdb ?_)
        rw [entry_at heb j, hj]
        show wpAny _ _ (holding [Value.int m u] _) _ _ _
        refine wpAny_holding ((SeqAt.EqAt.int_int (A := A) (s := z) n t m u).eqP _ _ ?_)
        by_cases hnm : n = m
        · have e4 : (n == m) = true := by rw [hnm]; simp
          first | rw [e4] | (rw [decide_eq_true hnm]) | skip
          show wpAny _ _ (if (!true) = true then _ else _) _ _ _
          rw [if_neg (by decide)]
          refine wpAny_bind (wpAny_dictEpoch hoa hda ?_)
          rw [if_neg (by simp)]
          refine wpAny_pure ⟨rfl, rfl, x + 1, hlt, hrest, fun j' p' hj' hp' => ?_⟩
          by_cases ej : j' = x
          · subst ej
            rw [hx] at hp'
            cases hp'
            rw [hm, decide_eq_true hnm]
          · exact hpre j' p' (by omega) hp'
        · have e4 : (n == m) = false := beq_eq_false_iff_ne.mpr hnm
          first | rw [e4] | (rw [decide_eq_false hnm]) | skip
          show wpAny _ _ (if (!false) = true then _ else _) _ _ _
          rw [if_pos (by decide)]
          refine wpAny_pure (wpAny_pure ?_)
          have : xa.all (hitT xb) = false := List.all_eq_false.mpr ⟨_, List.mem_of_getElem? hx, by rw [hm, decide_eq_false hnm]; exact Bool.false_ne_true⟩
          rw [this] at h
          exact h
    · intro q z hz
      obtain ⟨e1, e2, i, hi, hr, hpre⟩ := hz
      subst e1 e2
      have hin : es.size ≤ i := Nat.le_of_not_lt fun c => by
        rw [show es.size - i = es.size - (i + 1) + 1 by omega, List.range'_succ] at hr
        cases hr
      refine wpAny_pure ?_
      have : xa.all (hitT xb) = true := List.all_eq_true.mpr fun p hp => by
        obtain ⟨j, hj, e⟩ := List.getElem_of_mem hp
        exact hpre j p (by omega) (by rw [List.getElem?_eq_getElem hj, e])
      rw [this] at h
      exact h
  · rw [if_pos (by simpa using hsz)]
    have hbf : (xa.length == xb.length) = false := by
      rw [← la, ← lb]
      simpa using hsz
    rw [hbf, Bool.false_and] at h
    exact wpAny_bind (wpAny_rule (wpAny_pure h))
end
end Vl

namespace Vl
open PySem PySem.Calls PyProof.Rows PyProof.V PySem.Spec L2
/-- as resT, by abstract values -/
def eqVT (ws us : List (List Key × V)) : Bool := ws.length == us.length && ws.all fun p => match valV us p.1, p.2 with
  | some (.int m), .int n => decide (n = m)
  | _, _ => false
def IntV (ws : List (List Key × V)) : Prop := ∀ p ∈ ws, ∃ i, p.2 = V.int i
theorem valV_mem {κ : Type} [DecidableEq κ] {k : κ} {v : V} : ∀ {ws : List (κ × V)}, valV ws k = some v → (k, v) ∈ ws
  | [], h => by cases h
  | p :: r, h => by
    by_cases c : p.1 = k
    · rw [valV_pos c] at h
      cases h
      subst c
      exact List.mem_cons_self
    · rw [valV_neg c] at h
      exact List.mem_cons_of_mem _ (valV_mem h)
theorem intsT_of {H : Hp} {ws : List (List Key × V)} {xa : List ET} (r : KT H ws xa) (h : IntV ws) : IntsT xa := by
  induction r with
  | nil => exact fun p hp => nomatch hp
  | @cons p q ps qs hq t ih =>
    intro x hx
    rcases List.mem_cons.mp hx with rfl | hx
    · obtain ⟨i, e⟩ := h p List.mem_cons_self
      obtain ⟨_, _, rv⟩ := hq
      rw [e] at rv
      obtain ⟨tk, e2⟩ := rv
      exact ⟨i, tk, e2⟩
    · exact ih (fun p hp => h p (List.mem_cons_of_mem _ hp)) x hx
theorem res_eq {H : Hp} {us : List (List Key × V)} {xb : List ET} (rb : KT H us xb) (hb : IntV us) {ws : List (List Key × V)} {xa : List ET} (ra : KT H ws xa) (ha : IntV ws) : resT xa xb = eqVT ws us := by
  have l1 : ws.length = xa.length := Paired.length ra
  have l2 : us.length = xb.length := Paired.length rb
  unfold resT eqVT
  rw [l1, l2]
  congr 1
  clear l1 l2
  induction ra with
  | nil => rfl
  | @cons p q ps qs hq t ih =>
    rw [List.all_cons, List.all_cons, ih fun p hp => ha p (List.mem_cons_of_mem _ hp)]
    congr 1
    obtain ⟨i, e⟩ := ha p List.mem_cons_self
    obtain ⟨h1, _, rv⟩ := hq
    rw [e] at rv
    obtain ⟨tk, e2⟩ := rv
    have kv := rb.val p.1
    unfold hitT
    rw [← h1, e, e2]
    cases c : valV us p.1 with
    | none =>
      rw [c] at kv
      cases c2 : atKey xb p.1 with
      | none => rfl
      | some z => rw [c2] at kv; exact kv.elim
    | some v =>
      obtain ⟨j, ej⟩ := hb _ (valV_mem c)
      have ej : v = V.int j := ej
      subst ej
      rw [c] at kv
      cases c2 : atKey xb p.1 with
      | none => rw [c2] at kv; exact kv.elim
      | some z =>
        rw [c2] at kv
        obtain ⟨u, eu⟩ : ∃ u, z.2 = Value.int j u := kv
        show decide (ivT (.int i tk) = ivT z.2) = decide (i = j)
        rw [eu]
        rfl
def rCmpT (neg : Bool) : R2 := fun x y H Q => ∃ a b ws us, x = .ref a ∧ y = .ref b ∧ Rd H a (.dT ws) ∧ Rd H b (.dT us) ∧ IntV ws ∧ IntV us ∧ Q (.bl (eqVT ws us != neg)) H
section
variable {X : Cx}
theorem op_eqT (hu : X.A.units + 64 < cLine) : OpR X (compareOp .Eq) (rCmpT false) := fun pins s σ H x y v u Q I rx ry h => by
  obtain ⟨a, b, ws, us, rfl, rfl, ea, eb, ia, ib, q⟩ := h
  obtain rfl : v = Value.ref a := rx
  obtain rfl : u = Value.ref b := ry
  obtain ⟨_, ya, xa, ra, da⟩ := dt_rd I.hok ea
  obtain ⟨_, yb, xb, rb, db⟩ := dt_rd I.hok eb
  refine wpAny_richCompare_same_room (op := .Eq) da.typeIs db.typeIs PySem.F.slot_dict_eq (wpAny_call_entry PySem.F.slot_dict_eq da.typeIs PySem.F.entry_dict_eq ?_ (PySem.F.args_dict_eq_2 _ _)) (by omega)
  show wpAny _ _ (Builtin.Dict.dictSlotArgs "__eq__" ⟨[.ref a, .ref b], []⟩ >>= _) _ _ s
  refine wpAny_bind ?_
  unfold Builtin.Dict.dictSlotArgs
  refine wpAny_bind (wpAny_notOrdered_dict da.typeIs ?_)
  show wpAny _ _ (pure (Value.ref a, Value.ref b)) _ _ s
  refine wpAny_pure (wpAny_bind (wpAny_isInstance (T := "dict") db.typeIs PySem.F.sub_dict_dict ?_))
  simp only [Bool.not_true, Bool.false_eq_true, if_false]
  refine wpAny_bind (wpAny_pure (wpAny_bind (wpAny_pure (wpAny_bind (sameT (by show X.A.units + 1 < cLine; omega) ya yb da db (intsT_of ra ia) (intsT_of rb ib) ?_)))))
  rw [res_eq rb ib ra ia]
  refine wpAny_pure ⟨_, rfl, (fun x => nomatch x), ?_⟩
  refine ⟨.bl (eqVT ws us != false), H, I, ?_, q⟩
  show Value.bool (eqVT ws us == true) = Value.bool (eqVT ws us != false)
  cases eqVT ws us <;> rfl
theorem op_neT (hu : X.A.units + 64 < cLine) : OpR X (compareOp .NotEq) (rCmpT true) := fun pins s σ H x y v u Q I rx ry h => by
  obtain ⟨a, b, ws, us, rfl, rfl, ea, eb, ia, ib, q⟩ := h
  obtain rfl : v = Value.ref a := rx
  obtain rfl : u = Value.ref b := ry
  obtain ⟨_, ya, xa, ra, da⟩ := dt_rd I.hok ea
  obtain ⟨_, yb, xb, rb, db⟩ := dt_rd I.hok eb
  refine wpAny_richCompare_same_room (op := .NotEq) da.typeIs db.typeIs PySem.F.slot_dict_ne (wpAny_call_entry PySem.F.slot_dict_ne da.typeIs PySem.F.entry_dict_ne ?_ (PySem.F.args_dict_ne_2 _ _)) (by omega)
  show wpAny _ _ (Builtin.Dict.dictSlotArgs "__ne__" ⟨[.ref a, .ref b], []⟩ >>= _) _ _ s
  refine wpAny_bind ?_
  unfold Builtin.Dict.dictSlotArgs
  refine wpAny_bind (wpAny_notOrdered_dict da.typeIs ?_)
  show wpAny _ _ (pure (Value.ref a, Value.ref b)) _ _ s
  refine wpAny_pure (wpAny_bind (wpAny_isInstance (T := "dict") db.typeIs PySem.F.sub_dict_dict ?_))
  simp only [Bool.not_true, Bool.false_eq_true, if_false]
  refine wpAny_bind (wpAny_pure (wpAny_bind (wpAny_pure (wpAny_bind (sameT (by show X.A.units + 1 < cLine; omega) ya yb da db (intsT_of ra ia) (intsT_of rb ib) ?_)))))
  rw [res_eq rb ib ra ia]
  refine wpAny_pure ⟨_, rfl, (fun x => nomatch x), ?_⟩
  refine ⟨.bl (eqVT ws us != true), H, I, ?_, q⟩
  show Value.bool (eqVT ws us == false) = Value.bool (eqVT ws us != true)
  cases eqVT ws us <;> rfl
end
/-! by data -/
def intD : D → Bool
  | .int _ => true
  | _ => false
def eqPD (a b : List (D × D)) : Bool := a.length == b.length && a.all fun p => match lookD b p.1, p.2 with
  | some (.int m), .int n => decide (n = m)
  | _, _ => false
def gCmpT (neg : Bool) (d e : D) : Option D := match d, e with
  | .dct _ true a, .dct _ true b => if (a.all (fun p => intD p.2) && b.all fun p => intD p.2) = true then some (.bl (eqPD a b != neg)) else none
  | _, _ => none
section
variable {K : PySem.W.Frag} {Z : Addr → Prop} {H : Hp}
theorem DRel.ints : ∀ {a : List (D × D)} {ws : List (List Key × V)} {F : List Addr}, DRel K Z H encT a ws F → a.all (fun p => intD p.2) = true → IntV ws
  | [], ws, F, r, _ => by rw [r.nil_]; exact fun p hp => nomatch hp
  | p :: a, ws, F, r, h => by
    obtain ⟨q, qs, F1, F2, rfl, k1, _, r1, r2⟩ := r.uncons
    rw [List.all_cons, Bool.and_eq_true] at h
    intro x hx
    rcases List.mem_cons.mp hx with rfl | hx
    · have h1 := h.1
      generalize hv : x.2 = v at r1
      cases hp : p.2 with
      | int i =>
        rw [hp] at r1
        exact ⟨i, r1.int_inv⟩
      | _ => rw [hp] at h1; cases h1
    · exact DRel.ints r2 h.2 x hx
theorem eqPD_of {b : List (D × D)} {us : List (List Key × V)} {G : List Addr} (rb : DRel K Z H encT b us G) (ib : b.all (fun p => intD p.2) = true) : ∀ {a : List (D × D)} {ws : List (List Key × V)} {F : List Addr}, DRel K Z H encT a ws F → a.all (fun p => intD p.2) = true →
    (a.all fun p => match lookD b p.1, p.2 with | some (.int m), .int n => decide (n = m) | _, _ => false) = ws.all fun p => match valV us p.1, p.2 with | some (.int m), .int n => decide (n = m) | _, _ => false
  | [], ws, F, r, _ => by rw [r.nil_]; rfl
  | p :: a, ws, F, r, h => by
    obtain ⟨q, qs, F1, F2, rfl, k1, _, r1, r2⟩ := r.uncons
    rw [List.all_cons, Bool.and_eq_true] at h
    rw [List.all_cons, List.all_cons, eqPD_of rb ib r2 h.2]
    congr 1
    cases hp : p.2 with
    | int i =>
      rw [hp] at r1
      rw [r1.int_inv, k1]
      obtain ⟨l1, l2⟩ := rb.look kEq_encT q.1
      cases c : lookD b (encT q.1) with
      | none => rw [l2 c]
      | some d =>
        obtain ⟨v, G', z1, z2, _⟩ := l1 d c
        have hd : intD d = true := by
          have : ∀ {b : List (D × D)}, b.all (fun p => intD p.2) = true → ∀ {k d : D}, lookD b k = some d → intD d = true := by
            intro b
            induction b with
            | nil => intro _ k d e; cases e
            | cons x xs ih =>
              intro hb k d e
              rw [List.all_cons, Bool.and_eq_true] at hb
              unfold lookD at e
              split at e
              · cases e; exact hb.1
              · exact ih hb.2 e
          exact this ib c
        cases d with
        | int m => rw [z1, z2.int_inv]
        | _ => cases hd
    | _ => have h1 := h.1; rw [hp] at h1; cases h1
theorem os_cmpT (neg : Bool) : OpS K (rCmpT neg) (gCmpT neg) := OpS.here fun Z H d1 d2 v1 v2 F1 F2 d Q r1 r2 hg q => by
  unfold gCmpT at hg
  split at hg
  · rename_i o1 a o2 b
    split at hg
    · rename_i hi
      cases hg
      rw [Bool.and_eq_true] at hi
      obtain ⟨p, ws, G, rfl, hr, dr, _⟩ := r1.dctT_rd
      obtain ⟨p2, us, G2, rfl, hr2, dr2, _⟩ := r2.dctT_rd
      have l1 : a.length = ws.length := by have := congrArg List.length dr.ks; simpa using this
      have l2 : b.length = us.length := by have := congrArg List.length dr2.ks; simpa using this
      refine ⟨p, p2, ws, us, rfl, rfl, hr, hr2, dr.ints hi.1, dr2.ints hi.2, ?_⟩
      have e : eqPD a b = eqVT ws us := by
        unfold eqPD eqVT
        rw [l1, l2, eqPD_of dr2 hi.2 dr hi.1]
      rw [← e]
      exact q _ (.bl _)
    · cases hg
  · cases hg
end
end Vl

namespace Vl
open PySem PySem.Calls PyProof.Rows PyProof.V PySem.Spec L2
/-! ### for k, v in d.items(): d a dict with tuple keys -/
def Itit (d : Addr) (o : Obj) (kvs : List (List Key × V)) : It :=
  ⟨fun i H => H d = some (.frz o (.dT kvs)) ∧ i < kvs.length, fun i H x H' => ∃ T q k v, kvs[i]? = some (k, v) ∧ x = .ref T ∧ H T = none ∧ H q = some (.tup (k.map kV)) ∧ H' = upd H T (.tup [.ref q, v]), fun i H => H d = some (.frz o (.dT kvs)) ∧ kvs.length ≤ i⟩
theorem frzT2 {X : Cx} {pins : List (Addr × Obj)} {σ : L2.St} {H : Hp} {s : Shared} {d : Addr} {o : Obj} {kvs : List (List Key × V)} (I : Inv X pins σ H s) (h : H d = some (.frz o (.dT kvs))) :
    (d == sysModules) = false ∧ s.heap.get? d = some o ∧ o.ExactDict ∧ ∃ (es : Array DictEntry) (ep : Nat), o.data = .dict es ep ∧ es.size = kvs.length ∧
      ∀ (i : Nat) (k : List Key) (v : V), kvs[i]? = some (k, v) → ∃ (en : DictEntry) (q : Addr), es[i]? = some en ∧ en.key = .ref q ∧ H q = some (.tup (k.map kV)) ∧ RelV v en.val := by
  obtain ⟨hd, z, hs, xs, pr, o', es, ep, ho, hx, hdt, he, _⟩ := I.hok d _ h
  rw [hd] at ho
  cases ho
  refine ⟨hs, hd, hx, es, ep, hdt, ?_, fun i k v e => ?_⟩
  · rw [size_of_entries he]
    exact (Paired.length pr).symm
  · obtain ⟨b, hb, e1, e2, e3⟩ := paired_get pr e
    have q := entry_at he i
    rw [hb] at q
    exact ⟨_, b.2.1, q, rfl, e2, e3⟩
section
variable {P : Program} {w : World} {K : PySem.W.Frag} {d : Addr} {o : Obj} {es : Array DictEntry} {ep : Nat}
theorem turn_itemsT {kvs : List (List Key × V)} {elts : List Expr} {kk : Nat} {tpos : Pos} (it : Addr) (hod : o.data = .dict es ep) :
    Turn P w K (.Tuple elts kk tpos) (Itit d o kvs) [it] it (fun i h => ∃ ok ov, IsItemIter h it d i kvs.length ep ok ov) where
  mem := by simp
  obj := fun i h st b hb => by
    have e : b = it := by simpa using hb
    subst e
    obtain ⟨ok, ov, e⟩ := st
    exact ⟨_, e, fun v z => nomatch z⟩
  keep := fun i h h' st k => let ⟨ok, ov, e⟩ := st; ⟨ok, ov, k it (by simp) _ e⟩
  item := by
    intro X hP hw hK hc i pins s σ H E I hf st hg
    subst hP hw hK
    obtain ⟨hd, hi⟩ := hg
    obtain ⟨hs, hgd, hx, es', ep', hdt, hsz, ent⟩ := frzT2 I hd
    obtain ⟨rfl, rfl⟩ := dict_ep hod hdt
    obtain ⟨⟨k, v⟩, hkv⟩ : ∃ p, kvs[i]? = some p := ⟨kvs[i], List.getElem?_eq_getElem hi⟩
    obtain ⟨en, q, hen, hkey, hq, hval⟩ := ent i k v hkv
    have hie : i < es'.size := by omega
    have een : es'[i] = en := by rw [Array.getElem?_eq_getElem hie] at hen; exact Option.some.inj hen
    obtain ⟨ok, ov, he⟩ := st
    rw [← hsz] at he
    have hlt : it < s.heap.objs.size := Heap.lt_size he
    have hr : DT.Raw s.heap d es' ep' := ⟨o, hgd, hx, hod⟩
    refine DT.nextI he hr hie fun h' ho hT hz hk => ?_
    rw [een] at ho hT
    refine ⟨_, rfl, wpAny_letOwnedTupleGo_items (s := { s with heap := h' }) ho fun h'' he' sb => ?_⟩
    have hT2 : h''.get? s.heap.objs.size = some { cls := .type "tuple", data := .seq #[en.key, en.val] } := (sb.2 _ (Nat.ne_of_gt hlt)).trans hT
    have new : ObjOk X.prog X.w (upd H s.heap.objs.size (.tup [.ref q, v])) h'' s.heap.objs.size (.tup [.ref q, v]) :=
      ⟨by show 2 ≤ sizeLine; decide, [en.key, en.val], .cons hkey (.cons hval .nil), ⟨_, hT2, rfl, _, rfl⟩⟩
    have I1 : Inv X pins σ (upd H s.heap.objs.size (.tup [.ref q, v])) { s with heap := h'' } :=
      I.turnedNew (t' := s.toks) (ch := [it]) (fun b ob hb e => (sb.2 b (by simpa using hb)).trans (hk b ob (by simpa using hb) e)) hf (Nat.le_refl _) new
    refine ⟨.ref s.heap.objs.size, _, I1, rfl, ⟨_, q, k, v, hkv, rfl, I.hok.fresh (Nat.le_refl _), hq, rfl⟩, ⟨en.key, en.val, ?_⟩, fun b hb => ?_⟩
    · rw [← hsz]; exact he'
    · have e : b = it := by simpa using hb
      rw [e, upd_ne (Nat.ne_of_lt hlt)]
      exact (hf it (by simp)).1
  done := by
    intro X hP hw hK hc i pins s σ H E I hf st hg
    subst hP hw hK
    obtain ⟨hd, hi⟩ := hg
    obtain ⟨f0, f1, f2, f3, f4, f5⟩ := hf it (by simp)
    obtain ⟨hs, hgd, hx, es', ep', hdt, hsz, ent⟩ := frzT2 I hd
    obtain ⟨rfl, rfl⟩ := dict_ep hod hdt
    obtain ⟨ok, ov, he⟩ := st
    rw [← hsz] at he
    exact DT.endI (I.ok.hd hc) he ⟨o, hgd, hx, hod⟩ (by omega) fun h' eb => ⟨rfl, I.turned (t' := s.toks) (fun b o hb e => eb b o hb e) f0 f1 f3 f4 f5⟩
  self := fun A i s Q E st h => let ⟨_, _, e⟩ := st; PySem.W.kcp_self e h
end
/-- the dict is locked from here on -/
def iItemsT (td : TE) : TI := fun σ H R => td σ H fun x H1 => ∃ d kvs, x = .ref d ∧ H1 d = some (.dT kvs) ∧ ∀ od, R (Itit d od kvs) (upd H1 d (.frz od (.dT kvs)))
section
variable {X : Cx} {tg e : Expr} {td : TE} {apos cpos : Pos}
theorem pi_itemsT {elts : List Expr} {kk : Nat} {tpos : Pos} (he : PE X e td) (hbase : attributeBase e "items" X.env (eval e X.env) = eval e X.env := by rfl) (hline : (apos.endLine == cpos.line) = true := by rfl) :
    PI X (.Tuple elts kk tpos) (.Call (.Attribute e "items" apos) [] [] cpos) (iItemsT td) := by
  refine ⟨fun pins s σ H R I h => ?_⟩
  refine wpAny_Call_method (T := "dict") (id := "dict.items") hbase rfl hline F.plainAttrs_dict F.slot_dict_items F.type_dict_items (thn (he.run pins s σ H _ I h) fun u s1 ⟨x, H0, I0, rx, d, kvs, ex, hd0, q⟩ => ?_)
  subst ex
  obtain rfl : u = Value.ref d := rx
  obtain ⟨od, I1⟩ := I0.lock hd0 trivial
  obtain ⟨hs, hgd, hx, es, ep, hdt, hsz, ent⟩ := frzT2 I1 upd_same
  have hr : DT.Raw s1.heap d es ep := ⟨od, hgd, hx, hdt⟩
  refine ⟨hr.typeIs, fun b e => ?_, ?_⟩
  · cases e
    exact ⟨od, hgd, hx.2.1⟩
  have I2 : Inv X pins σ (upd H0 d (.frz od (.dT kvs))) { s1 with heap := s1.heap.push { cls := .type "dict_items", data := .fields #[.ref d] } } := I1.kept (t' := s1.toks) fun b ob q => Heap.get?_push_of_some _ q
  have fin : wpAny (model X.prog X.w) X.A (pyIter (.ref s1.heap.objs.size)) (PIE X pins σ (.Tuple elts kk tpos) R) X.xe { s1 with heap := s1.heap.push { cls := .type "dict_items", data := .fields #[.ref d] } } := by
    refine DT.iterI (d := d) (es := es) (ep := ep) ⟨_, Heap.get?_push_size _ rfl, rfl, rfl⟩ (hr.push _) (pi_one (tk := s1.toks) I2 _ (turn_itemsT _ hdt) ⟨.none, .none, ?_⟩ (q od))
    rw [← hsz]
    exact Heap.get?_push_size _ rfl
  show wpAny _ _ (callWith cpos (.builtin "dict.items") [.ref d] [] []) _ X.xe s1
  exact method_meetsIn F.slot_dict_items F.entry_dict_items rfl (PySem.evalArgs_none ⟨rfl, hr.typeIs, F.args_dict_items_1 _, _, DT.meetsItems (es := es) (ep := ep) hs, hr, fin⟩)
end
def iItT (f : M D) : M (List D) := fun ρ => (f ρ).bind fun p => match p.1 with
  | .dct true true kvs => if D.noOwnP kvs = true then some (kvs.map fun q => .tup [q.1, q.2], p.2) else none
  | _ => none
theorem walk_itemsT {d : Addr} {o : Obj} {kvs : List (List Key × V)} : Walk (Itit d o kvs) kvs.length (fun H => H d = some (.frz o (.dT kvs))) (fun i H x H' => ∃ T q k v, kvs[i]? = some (k, v) ∧ x = .ref T ∧ H T = none ∧ H q = some (.tup (k.map kV)) ∧ H' = upd H T (.tup [.ref q, v])) :=
  ⟨fun i _ hi q => ⟨q, hi⟩, fun _ q => ⟨q, Nat.le_refl _⟩, fun _ _ _ _ _ _ y => y⟩
section
variable {X : Cx} {T : List Nat} {e : Expr} {f : M D} {apos cpos : Pos}
theorem piv_itemsT {elts : List Expr} {kk : Nat} {tpos : Pos} (he : PEV X T [] true e f) (hbase : attributeBase e "items" X.env (eval e X.env) = eval e X.env := by rfl) (hline : (apos.endLine == cpos.line) = true := by rfl) :
    PIV X T [] (.Tuple elts kk tpos) (.Call (.Attribute e "items" apos) [] [] cpos) (iItT f) := by
  refine PI.imp (pi_itemsT he hbase hline) fun σ H Rk h => ?_
  obtain ⟨Z, ρ, Fs, items, ρ', rel, hf, q⟩ := h
  unfold iItT at hf
  obtain ⟨⟨d1, ρ1⟩, h1, hf⟩ := Option.bind_eq_some_iff.mp hf
  simp only at hf
  split at hf
  · rename_i kvs
    split at hf
    · rename_i hn
      cases hf
      refine ⟨Z, ρ, Fs, _, _, rel, h1, fun v H' Z' Fs' F rel' f' w c => ?_⟩
      obtain ⟨a, ws, G, rfl, rfl, ha, dr⟩ := w.r.dctT_ow
      have e0 : G = [] := dr.rs.no (by rw [← noOwnP_eq]; exact hn)
      subst e0
      refine ⟨a, ws, rfl, ha, fun od => ?_⟩
      have hnj : ∀ j, a ∉ Fs' j := fun j hj => absurd (w.ori j a List.mem_cons_self hj) (by simp)
      have hnz : ¬ Z' a := (w.exc rfl).2 a List.mem_cons_self
      have ca := c rfl a List.mem_cons_self
      have rel2 := rel'.lock (od := od) (show IsDc (.dT ws) from trivial) ha hnj
      have frm2 : Frm T Z ρ Fs H Z' ρ' Fs' (upd H' a (.frz od (.dT ws))) := by
        refine ⟨f'.sub, ⟨fun b o hb n => ?_, fun b xs hb => ?_, fun b o u hb => ?_, fun b hb => ?_⟩, f'.c1, f'.c3, f'.zz, f'.len⟩
        · by_cases eb : b = a
          · subst eb
            rcases ca with z | z
            · exact absurd z n
            · rw [hb] at z; cases z
          · rw [upd_ne eb]; exact f'.keep.out b o hb n
        · have h2 := f'.keep.tup b xs hb
          rw [upd_ne (fun eb => by subst eb; rw [ha] at h2; cases h2)]
          exact h2
        · have h2 := f'.keep.frz b o u hb
          rw [upd_ne (fun eb => by subst eb; rw [ha] at h2; cases h2)]
          exact h2
        · by_cases eb : b = a
          · subst eb; rw [upd_same]; intro z; cases z
          · rw [upd_ne eb]; exact f'.keep.dom b hb
      have wk := walk_itemsT (d := a) (o := od) (kvs := ws)
      have hl : ws.length = (kvs.map fun q => D.tup [q.1, q.2]).length := by
        have := congrArg List.length dr.ks
        rw [List.length_map, List.length_map] at this
        rw [List.length_map, this]
      rw [hl] at wk
      have rs2 : Rs X.K Z' (upd H' a (.frz od (.dT ws))) (kvs.map (·.2)) (ws.map (·.2)) [] := Rs.lock (show IsDc (.dT ws) from trivial) ha dr.rs (by simp)
      refine q _ _ Z' Fs' [] _ _ rel2 frm2 wk (fun _ _ h => (by cases h)) fun M Z2 H2 k hA hZ zz => ⟨k.frz _ _ _ upd_same, fun j x h' d' hy hi => ?_⟩
      obtain ⟨T0, b, ks, v, h3, rfl, hT, hb, rfl⟩ := hy
      have k1 : Keep M0 H2 (upd H2 T0 (.tup [.ref b, v])) := Keep.new hT
      refine ⟨k1, ?_⟩
      rw [List.getElem?_map] at hi
      obtain ⟨p, hp, rfl⟩ := Option.map_eq_some_iff.mp hi
      have hkj : p.1 = encT ks := by
        have := congrArg (fun l => l[j]?) dr.ks
        simp only [List.getElem?_map, hp, h3, Option.map_some] at this
        exact Option.some.inj this
      have rs3 := rs2.keep k zz hZ (fun _ h => (by cases h))
      obtain ⟨v', G', g1, g2, g3⟩ := rs3.get (i := j) (d := p.2) (by rw [List.getElem?_map, hp]; rfl)
      rw [List.getElem?_map, h3] at g1
      have ev : v = v' := Option.some.inj g1
      subst ev
      have eG : G' = [] := by
        cases G' with
        | nil => rfl
        | cons z r => exact absurd (g3 z List.mem_cons_self) (by simp)
      subst eG
      refine .tup upd_same (.cons0 ?_ (.cons0 (g2.keep0 k1) .nil))
      rw [hkj]
      exact R.tup (by rw [upd_ne (ne_of_none hb hT)]; exact hb) (rs_keyss ks)
    · cases hf
  · cases hf
end
end Vl

namespace Vl
open PySem PySem.Spec PyProof.Rows L2
/-! ### name[i][j] op= e : a list of lists, all owned -/
section
variable {K : PySem.W.Frag} {Z : Addr → Prop} {H H' : Hp}
theorem Rs.split : ∀ {j : Nat} {ds : List D} {vs : List V} {F : List Addr} {d : D}, Rs K Z H ds vs F → ds[j]? = some d →
    ∃ p q vp vq v F1 G F2, ds = p ++ d :: q ∧ vs = vp ++ v :: vq ∧ p.length = j ∧ vp.length = j ∧ F = F1 ++ (G ++ F2) ∧ Rs K Z H p vp F1 ∧ R K Z H d v G ∧ Rs K Z H q vq F2
  | _, [], _, _, _, _, e => by simp at e
  | 0, x :: ds, vs, F, d, r, e => by
    obtain ⟨v, ws, F1, F2, rfl, rfl, r1, r2⟩ := r.uncons
    have e : x = d := by simpa using e
    subst e
    exact ⟨[], ds, [], ws, v, [], F1, F2, rfl, rfl, rfl, rfl, rfl, .nil, r1, r2⟩
  | j + 1, x :: ds, vs, F, d, r, e => by
    obtain ⟨v, ws, F1, F2, rfl, rfl, r1, r2⟩ := r.uncons
    obtain ⟨p, q, vp, vq, u, G1, G, G2, h1, h2, h3, h4, h5, h6, h7, h8⟩ := Rs.split (j := j) (d := d) r2 (by simpa using e)
    subst h1 h2 h5
    exact ⟨x :: p, q, v :: vp, vq, u, F1 ++ G1, G, G2, rfl, rfl, by rw [List.length_cons, h3], by rw [List.length_cons, h4], by rw [List.append_assoc], .cons r1 h6, h7, h8⟩
structure Nest (K : PySem.W.Frag) (Z : Addr → Prop) (H : Hp) (l m : List D) (j : Nat) (v0 : V) (F0 : List Addr) (a b : Addr) (vs ws : List V) : Prop where
  ex : ∃ p q vp vq F1 F2, l = p ++ .lst true m :: q ∧ vs = vp ++ V.ref b :: vq ∧ p.length = j ∧ vp.length = j ∧ F0 = a :: (F1 ++ (b :: F2)) ∧ Rs K Z H p vp F1 ∧ Rs K Z H q vq F2
  v : v0 = .ref a
  ha : H a = some (.lst vs)
  hb : H b = some (.lst ws)
  rm : Rs K Z H m ws []
theorem nest_at {l m : List D} {j : Nat} {v0 : V} {F0 : List Addr} (r : R K Z H (.lst true l) v0 F0) (hj : l[j]? = some (.lst true m)) (hm : D.noOwnL m = true) : ∃ a b vs ws, Nest K Z H l m j v0 F0 a b vs ws := by
  obtain ⟨a, vs, G, rfl, rfl, ha, rs⟩ := r.own_inv
  obtain ⟨p, q, vp, vq, v, F1, G1, F2, h1, h2, h3, h4, h5, h6, h7, h8⟩ := rs.split hj
  obtain ⟨b, ws, G2, rfl, rfl, hb, rm⟩ := h7.own_inv
  have e := rm.no hm
  subst e
  exact ⟨a, b, vs, ws, ⟨p, q, vp, vq, F1, F2, h1, h2, h3, h4, by rw [h5]; rfl, h6, h8⟩, rfl, ha, hb, rm⟩
theorem Nest.at {l m : List D} {j : Nat} {v0 : V} {F0 : List Addr} {a b : Addr} {vs ws : List V} (n : Nest K Z H l m j v0 F0 a b vs ws) : vs[j]? = some (.ref b) := by
  obtain ⟨p, q, vp, vq, F1, F2, h1, h2, h3, h4, _⟩ := n.ex
  rw [h2, ← h4]
  simp
theorem Nest.len {l m : List D} {j : Nat} {v0 : V} {F0 : List Addr} {a b : Addr} {vs ws : List V} (n : Nest K Z H l m j v0 F0 a b vs ws) : l.length = vs.length := by
  obtain ⟨p, q, vp, vq, F1, F2, h1, h2, h3, h4, _, h6, h7⟩ := n.ex
  rw [h1, h2, List.length_append, List.length_append, List.length_cons, List.length_cons, h6.length, h7.length]
/-- the same things later -/
theorem Nest.same {Z' : Addr → Prop} {l m : List D} {j : Nat} {v0 : V} {F0 F0' : List Addr} {a b a' b' : Addr} {vs ws vs' ws' : List V} (n : Nest K Z H l m j v0 F0 a b vs ws) (n' : Nest K Z' H' l m j v0 F0' a' b' vs' ws') (k : Keep M0 H H') : a' = a ∧ vs' = vs ∧ b' = b := by
  have e : a' = a := by
    have := n.v.symm.trans n'.v
    injection this with this
    exact this.symm
  subst e
  have h1 := k.out _ _ n.ha id
  rw [n'.ha] at h1
  have e2 : vs' = vs := by injection h1 with h1; injection h1
  subst e2
  have h2 := n.at
  rw [n'.at] at h2
  injection h2 with h2
  injection h2 with h2
  exact ⟨rfl, rfl, h2⟩
theorem set_mid {α : Type} {p q : List α} {x y : α} : (p ++ x :: q).set p.length y = p ++ y :: q := by
  induction p with
  | nil => rfl
  | cons a r ih => rw [List.cons_append, List.length_cons, List.set_cons_succ, ih]; rfl
/-- the inner list written -/
theorem Nest.write {l m : List D} {j j2 : Nat} {v0 : V} {F0 : List Addr} {a b : Addr} {vs ws : List V} (n : Nest K Z H l m j v0 F0 a b vs ws) (nd : F0.Nodup) (nz : ∀ x ∈ F0, ¬ Z x) {z : D} {u : V} (rz : R K Z H z u []) :
    Keep (fun x => x ∈ F0) H (upd H b (.lst (ws.set j2 u))) ∧ R K Z (upd H b (.lst (ws.set j2 u))) (.lst true (l.set j (.lst true (m.set j2 z)))) v0 F0 := by
  obtain ⟨p, q, vp, vq, F1, F2, h1, h2, h3, h4, h5, h6, h7⟩ := n.ex
  have k : Keep (fun x => x = b) H (upd H b (.lst (ws.set j2 u))) := Keep.wr n.hb trivial
  have hbF : b ∈ F0 := by rw [h5]; simp
  refine ⟨k.mono fun x e => by rw [e]; exact hbF, ?_⟩
  have hz : ∀ x, Z x → ¬ x = b := fun x zx e => nz b hbF (by rw [← e]; exact zx)
  rw [h5] at nd
  obtain ⟨n1, n2⟩ := List.nodup_cons.mp nd
  obtain ⟨n3, n4, n5⟩ := List.nodup_append.mp n2
  obtain ⟨n6, n7⟩ := List.nodup_cons.mp n4
  have hab : a ≠ b := fun e => n1 (by rw [e]; simp)
  have f1 : ∀ x ∈ F1, ¬ x = b := fun x hx e => n5 x hx b List.mem_cons_self e
  have f2 : ∀ x ∈ F2, ¬ x = b := fun x hx e => n6 (by rw [← e]; exact hx)
  have rin : R K Z (upd H b (.lst (ws.set j2 u))) (.lst true (m.set j2 z)) (.ref b) [b] := .own upd_same ((Rs.set0 rz j2 n.rm).keep k (fun _ h => h) hz fun _ h => (by cases h))
  have rall : Rs K Z (upd H b (.lst (ws.set j2 u))) (p ++ .lst true (m.set j2 z) :: q) (vp ++ V.ref b :: vq) (F1 ++ ([b] ++ F2)) :=
    (h6.keep k (fun _ h => h) hz f1).app (.cons rin (h7.keep k (fun _ h => h) hz f2))
  rw [n.v, h5, h1, ← h3, set_mid]
  refine .own (by rw [upd_ne hab, n.ha, h2]) rall
end
def gNest (g : D → D → Option D) (o k1 k2 y : D) : Option D := match o, k1, k2 with
  | .lst true l, .int a, .int b => (ixN l.length a).bind fun j => (l[j]?).bind fun d => match d with
    | .lst true m => if D.noOwnL m = true then (L2.atI m b).bind fun z => (g z y).bind fun z' => if z'.noOwn = true then (ixN m.length b).bind fun j2 => some (.lst true (l.set j (.lst true (m.set j2 z')))) else none else none
    | _ => none
  | _, _, _ => none
theorem gNest_inv {g : D → D → Option D} {o k1 k2 y o' : D} (h : gNest g o k1 k2 y = some o') :
    ∃ l n1 n2 j m z z' j2, o = .lst true l ∧ k1 = .int n1 ∧ k2 = .int n2 ∧ ixN l.length n1 = some j ∧ l[j]? = some (.lst true m) ∧ D.noOwnL m = true ∧ L2.atI m n2 = some z ∧ g z y = some z' ∧ z'.noOwn = true ∧ ixN m.length n2 = some j2 ∧ o' = .lst true (l.set j (.lst true (m.set j2 z'))) := by
  unfold gNest at h
  split at h
  · next l n1 n2 =>
    obtain ⟨j, hj, h⟩ := Option.bind_eq_some_iff.mp h
    obtain ⟨dm, hm, h⟩ := Option.bind_eq_some_iff.mp h
    split at h
    · next m =>
      split at h
      · next hno =>
        obtain ⟨z, hz, h⟩ := Option.bind_eq_some_iff.mp h
        obtain ⟨z', hz', h⟩ := Option.bind_eq_some_iff.mp h
        split at h
        · next hnz =>
          obtain ⟨j2, hj2, h⟩ := Option.bind_eq_some_iff.mp h
          injection h with h
          exact ⟨l, n1, n2, j, m, z, z', j2, rfl, rfl, rfl, hj, hm, hno, hz, hz', hnz, hj2, h.symm⟩
        · cases h
      · cases h
    · cases h
  · cases h
def sAugSS (i : Nat) (g : D → D → Option D) (f1 f2 fe : M D) : MS := fun ρ => (Env.at ρ i).bind fun o => (f1 ρ).bind fun p1 => (f2 p1.2).bind fun p2 => (fe p2.2).bind fun p3 => (gNest g o p1.1 p2.1 p3.1).bind fun o' => some (.nx (p3.2.set i (some o')))
section
variable {X : Cx} {O1 O2 O3 : List Nat} {x1 x2 x3 : Bool} {e1 e2 e : Expr} {f1 f2 fe : M D} {npos pos pos1 p2 : Pos} {y : Str}
theorem psv_augSS (i : Nat) {op : Operator} {ti : TIp} {g : D → D → Option D} (hu : X.A.units + 1 < cLine) (ho : PIp X op ti) (hs : OpS X.K ti g) (hi1 : PEV X [] O1 x1 e1 f1) (hi2 : PEV X [] O2 x2 e2 f2) (he : PEV X [] O3 x3 e fe)
    (hp : PlainIx e1 := by intro _ _; rfl) (hN : X.N[i]? = some y := by rfl) (hv : Vis X.env.scope y := by first | exact Or.inl rfl | exact Or.inr (Or.inl rfl) | exact Or.inr (Or.inr rfl)) (hd : (y == ("__debug__" : Str)) = false := by decide) (hcd : (y == ("__classdict__" : Str)) = false := by decide)
    (ha : ∀ ov iv new, augStore e2 ov iv new = (do holding [new, ov, iv] (setItem ov iv new); release [new, ov, iv] []; pure .next) := by intros; rfl) :
    PSV X [] [i] (.AugAssign (.Subscript (.Subscript (.Name y npos) e1 pos1) e2 pos) op e p2) (sAugSS i g f1 f2 fe) := by
  refine PS.imp (ps_augS (pe_ix ix_seq (pe_var hN hv hd hcd) hi1 hp) hi2 (get_all hu) he ho (set_all hu) ha) fun D σ H h => ?_
  obtain ⟨Z, ρ, Fs, r, rel, hf, k1, k2, k3, k4⟩ := h
  unfold sAugSS at hf
  obtain ⟨o, h0, hf⟩ := Option.bind_eq_some_iff.mp hf
  obtain ⟨⟨d1, ρ1⟩, h1, hf⟩ := Option.bind_eq_some_iff.mp hf
  obtain ⟨⟨d2, ρ2⟩, h2, hf⟩ := Option.bind_eq_some_iff.mp hf
  obtain ⟨⟨d3, ρ3⟩, h3, hf⟩ := Option.bind_eq_some_iff.mp hf
  obtain ⟨o', h4, hf⟩ := Option.bind_eq_some_iff.mp hf
  cases hf
  obtain ⟨l, n1, n2, j, m, z, z', j2, eo, e1', e2', hj, hm, hno, hz, hz', hnz, hj2, eo'⟩ := gNest_inv h4
  simp only at e1' e2' hz'
  subst eo e1' e2' eo'
  obtain ⟨v0, hv0, r0⟩ := rel.at_ i _ (Env.at_some h0)
  refine ⟨v0, hv0, Z, ρ, Fs, .int n1, ρ1, rel, h1, fun v1 H1 Z1 Fs1 F1 rel1 fr1 w1 c1 => ?_⟩
  have at1 : ρ1[i]? = some (some (.lst true l)) := ((fr1.sub i (by simp)).2).trans (Env.at_some h0)
  obtain ⟨v0', hv0', r1⟩ := rel1.at_ i _ at1
  rw [hv0] at hv0'
  cases hv0'
  obtain ⟨a, b, vs, ws, N1⟩ := nest_at r1 hm hno
  have hat : L2.atI vs n1 = some (.ref b) := by
    unfold L2.atI
    rw [← N1.len, hj]
    exact N1.at
  refine .inl ⟨a, vs, n1, _, N1.v, w1.r.int_inv, SqL.of N1.ha, hat, ?_⟩
  refine ⟨Z1, ρ1, Fs1, .int n2, ρ2, rel1, h2, fun v2 H2 Z2 Fs2 F2 rel2 fr2 w2 c2 => ?_⟩
  have kk : ∀ {Za Zb : Addr → Prop} {ρa ρb : Env} {Fa Fb : Ft} {Ha Hb : Hp}, Frm [] Za ρa Fa Ha Zb ρb Fb Hb → Keep M0 Ha Hb := fun f => f.keep.mono fun x hx => by
    obtain ⟨j, hj, _⟩ := hx
    cases hj
  have at2 : ρ2[i]? = some (some (.lst true l)) := ((fr2.sub i (by simp)).2).trans at1
  obtain ⟨v0', hv0', r2⟩ := rel2.at_ i _ at2
  rw [hv0] at hv0'
  cases hv0'
  obtain ⟨a', b', vs', ws2, N2⟩ := nest_at r2 hm hno
  obtain ⟨ea, ev, eb⟩ := N1.same N2 (kk fr2)
  subst ea ev eb
  obtain ⟨wz, Gz, g1, g2, g3⟩ := N2.rm.atI hz
  refine .inl ⟨_, ws2, n2, wz, rfl, w2.r.int_inv, SqL.of N2.hb, g1, ?_⟩
  refine ⟨Z2, ρ2, Fs2, d3, ρ3, rel2, h3, fun v3 H3 Z3 Fs3 F3 rel3 fr3 w3 c3 => ?_⟩
  have eG : Gz = [] := by
    cases Gz with
    | nil => rfl
    | cons x r => exact absurd (g3 x List.mem_cons_self) (by simp)
  subst eG
  have gz3 := g2.keep (kk fr3) fr3.zz (fun _ _ h => h) fun _ h => (by cases h)
  refine hs Z3 H3 z d3 wz v3 [] F3 z' _ gz3 w3.r hz' fun vz H4 F4 kz rz ndz cz => ?_
  have e4 := rz.no hnz
  subst e4
  have rel4 := rel3.keep0 kz
  have fr4 := ((fr1.trans fr2).trans fr3).trans (Frm.pureT [] kz)
  have at3 : ρ3[i]? = some (some (.lst true l)) := ((fr3.sub i (by simp)).2).trans at2
  obtain ⟨v0', hv0', r4⟩ := rel4.at_ i _ at3
  rw [hv0] at hv0'
  cases hv0'
  obtain ⟨a', b', vs', ws4, N4⟩ := nest_at r4 hm hno
  obtain ⟨ea, ev, eb⟩ := N2.same N4 ((kk fr3).tr0 kz)
  subst ea ev eb
  have lw : ws4.length = m.length := N4.rm.length.symm
  refine .inl ⟨_, ws4, n2, j2, rfl, w2.r.int_inv, N4.hb, by rw [lw]; exact hj2, ?_⟩
  obtain ⟨kw, rw'⟩ := N4.write (j2 := j2) (rel4.nd i) (fun a ha => rel4.nz i a ha) rz
  obtain ⟨q1, q2, _, _, _⟩ := mut_end (F := []) (F' := []) rel4 fr4 Cf.nil (fun j a h => (by cases h)) (fun a h => (by cases h)) hv0 (Env.lt at3) kw rw' (by rw [List.nil_append]; exact rel4.nd i) (fun a ha => .inl ha)
  exact k1 _ rfl _ _ _ _ ⟨q1, q2, fun _ _ => rfl, rfl⟩
end
/-! ### a def that calls itself: the innermost call is none -/
theorem runF_none {np m n : Nat} {ds : List D} : runF np m n (fun _ => none) ds = none := by
  unfold runF
  split <;> rfl
theorem fnv_none {P : Program} {w : World} {K : PySem.W.Frag} {mg : Str → Option Value} {base : Heap} {k : Nat} {f : Addr} {fd : FuncData} {ps : List Str} {m np m' n : Nat} : FnV P w K mg base k f fd ps m (runF np m' n fun _ => none) :=
  ⟨fun _ _ _ _ ⟨_, _, _, _, _, _, _, _, _, h, _⟩ => (by rw [runF_none] at h; cases h), fun _ _ _ _ _ _ _ _ _ _ _ _ _ ⟨_, _, _, _, _, _, _, _, _, h, _⟩ => (by rw [runF_none] at h; cases h)⟩
end Vl

namespace Vl
open PySem PySem.Calls PyProof.Rows PyProof.V PySem.Spec L2
/-! ### for k, v in d.items(): the dict of a slot, with tuple keys, frozen from here on -/
def iItmL (td : TE) : TI := fun σ H R => td σ H fun x H1 => ∃ d od kvs, x = .ref d ∧ H1 d = some (.frz od (.dT kvs)) ∧ R (Itit d od kvs) H1
section
variable {X : Cx} {tg e : Expr} {td : TE} {apos cpos : Pos}
theorem pi_itemsL {elts : List Expr} {kk : Nat} {tpos : Pos} (he : PE X e td) (hbase : attributeBase e "items" X.env (eval e X.env) = eval e X.env := by rfl) (hline : (apos.endLine == cpos.line) = true := by rfl) :
    PI X (.Tuple elts kk tpos) (.Call (.Attribute e "items" apos) [] [] cpos) (iItmL td) := by
  refine ⟨fun pins s σ H R I h => ?_⟩
  refine wpAny_Call_method (T := "dict") (id := "dict.items") hbase rfl hline F.plainAttrs_dict F.slot_dict_items F.type_dict_items (thn (he.run pins s σ H _ I h) fun u s1 ⟨x, H0, I0, rx, d, od, kvs, ex, hd0, q⟩ => ?_)
  subst ex
  obtain rfl : u = Value.ref d := rx
  obtain ⟨hs, hgd, hx, es, ep, hdt, hsz, ent⟩ := frzT2 I0 hd0
  have hr : DT.Raw s1.heap d es ep := ⟨od, hgd, hx, hdt⟩
  refine ⟨hr.typeIs, fun b e => ?_, ?_⟩
  · cases e
    exact ⟨od, hgd, hx.2.1⟩
  have I2 : Inv X pins σ H0 { s1 with heap := s1.heap.push { cls := .type "dict_items", data := .fields #[.ref d] } } := I0.kept (t' := s1.toks) fun b ob q => Heap.get?_push_of_some _ q
  have fin : wpAny (model X.prog X.w) X.A (pyIter (.ref s1.heap.objs.size)) (PIE X pins σ (.Tuple elts kk tpos) R) X.xe { s1 with heap := s1.heap.push { cls := .type "dict_items", data := .fields #[.ref d] } } := by
    refine DT.iterI (d := d) (es := es) (ep := ep) ⟨_, Heap.get?_push_size _ rfl, rfl, rfl⟩ (hr.push _) (pi_one (tk := s1.toks) I2 _ (turn_itemsT _ hdt) ⟨.none, .none, ?_⟩ q)
    rw [← hsz]
    exact Heap.get?_push_size _ rfl
  show wpAny _ _ (callWith cpos (.builtin "dict.items") [.ref d] [] []) _ X.xe s1
  exact method_meetsIn F.slot_dict_items F.entry_dict_items rfl (PySem.evalArgs_none ⟨rfl, hr.typeIs, F.args_dict_items_1 _, _, DT.meetsItems (es := es) (ep := ep) hs, hr, fin⟩)
end
def iIts (i : Nat) : M (List D) := fun ρ => (Env.at ρ i).bind fun d => match d with
  | .dct false true kvs => if D.noOwnP kvs = true then some (kvs.map fun q => .tup [q.1, q.2], ρ) else none
  | _ => none
def tVIi (K : PySem.W.Frag) (i : Nat) : TI := fun σ H Rk => Lkd i σ H ∧ tVI K [] [] (iIts i) σ H Rk
section
variable {X : Cx} {T O W Wg Tg Wb Tb Tt Te : List Nat} {x : Bool} {tg iter elt e : Expr} {ifs : List Expr} {bd : List Stmt} {pos npos apos cpos : Pos} {y : Str} {g : D → Env → Option Env} {sb : MS} {ft : M Bool} {fe : M D}
theorem piv_its (i : Nat) {elts : List Expr} {kk : Nat} {tpos : Pos} (hN : X.N[i]? = some y := by rfl) (hv : Vis X.env.scope y := by first | exact Or.inl rfl | exact Or.inr (Or.inl rfl) | exact Or.inr (Or.inr rfl)) (hd : (y == ("__debug__" : Str)) = false := by decide) (hcd : (y == ("__classdict__" : Str)) = false := by decide)
    (hbase : attributeBase (.Name y npos) "items" X.env (eval (.Name y npos) X.env) = eval (.Name y npos) X.env := by rfl) (hline : (apos.endLine == cpos.line) = true := by rfl) :
    PI X (.Tuple elts kk tpos) (.Call (.Attribute (.Name y npos) "items" apos) [] [] cpos) (tVIi X.K i) := by
  refine PI.imp (pi_itemsL (pe_var hN hv hd hcd) hbase hline) fun σ H Rk h => ?_
  obtain ⟨⟨d, od, u, hs, hd, hu⟩, Z, ρ, Fs, items, ρ', rel, hf, q⟩ := h
  unfold iIts at hf
  obtain ⟨o, h0, hf⟩ := Option.bind_eq_some_iff.mp hf
  obtain ⟨v, hv, r⟩ := rel.at_ i o (Env.at_some h0)
  rw [hs] at hv
  cases hv
  generalize Fs i = F0 at r
  split at hf
  · rename_i kvs
    split at hf
    · rename_i hn
      cases hf
      refine ⟨.ref d, hs, d, od, ?_⟩
      cases r with
      | dfz h1 _ _ =>
        obtain ⟨o, h1, h2⟩ := h1
        rw [hd] at h1
        cases h1
        exact h2.dc.elim
      | @dlk _ _ vs0 _ h1 hr =>
        obtain ⟨o', o, h1, h2⟩ := h1
        rw [hd] at h1
        cases h1
        obtain ⟨ws, rfl, hk, hvs⟩ := h2
        refine ⟨ws, rfl, hd, ?_⟩
        have wk := walk_itemsT (d := d) (o := od) (kvs := ws)
        have hl : ws.length = (kvs.map fun q => D.tup [q.1, q.2]).length := by
          have := congrArg List.length hk
          rw [List.length_map, List.length_map] at this
          rw [List.length_map, this]
        rw [hl] at wk
        refine q _ H Z Fs [] _ _ rel (Frm.refl _) wk (fun _ _ h => (by cases h)) fun M Z2 H2 k hA hZ zz => ⟨k.frz _ _ _ hd, fun j x h d' hy hi => ?_⟩
        obtain ⟨T0, b, ks, v, h3, rfl, hT, hb, rfl⟩ := hy
        have k1 : Keep M0 H2 (upd H2 T0 (.tup [.ref b, v])) := Keep.new hT
        refine ⟨k1, ?_⟩
        rw [List.getElem?_map] at hi
        obtain ⟨p, hp, rfl⟩ := Option.map_eq_some_iff.mp hi
        have hkj : p.1 = encT ks := by
          have := congrArg (fun l => l[j]?) hk
          simp only [List.getElem?_map, hp, h3, Option.map_some] at this
          exact Option.some.inj this
        have rs3 := hr.keep k zz hZ (fun _ h => (by cases h))
        obtain ⟨v', G', g1, g2, g3⟩ := rs3.get (i := j) (d := p.2) (by rw [List.getElem?_map, hp]; rfl)
        have ev : v = v' := by
          rw [hvs, List.getElem?_map, h3] at g1
          exact Option.some.inj g1
        subst ev
        have eG : G' = [] := by
          cases G' with
          | nil => rfl
          | cons z r => exact absurd (g3 z List.mem_cons_self) (by simp)
        subst eG
        refine .tup upd_same (.cons0 ?_ (.cons0 (g2.keep0 k1) .nil))
        rw [hkj]
        exact R.tup (by rw [upd_ne (ne_of_none hb hT)]; exact hb) (rs_keyss ks)
    · cases hf
  · cases hf
theorem psv_forI (i : Nat) (hp : PassesOwn (model X.prog X.w) X.A X.env X.xe) (hc : X.calm = true) (hi : PI X tg iter (tVIi X.K i)) (hg : PGV X Wg Tg tg g) (hb : PSsV X Wb Tb bd sb)
    (hs : ∀ x, foldedSetIterable iter X.env x = pure x := by intro _; rfl) : PSV X (Wg ++ Wb) (i :: (Tg ++ Tb)) (.For tg iter bd [] pos) (sDk i (sFor (iIts i) g sb)) :=
  PS.imp (PS.orLock (ps_for hp hc hi hg hb hs)) fun D σ H h => tvs_lock i (T := [] ++ (Tg ++ Tb)) (t := tFor (tVIi X.K i) (tVG X.K Wg Tg g) (tVS X.K Wb Tb sb)) (fun D σ H lk q => ⟨lk, tv_for (T := []) (O := []) rfl q⟩) h
end
end Vl

namespace Vl
open PySem PySem.Spec PyProof.Rows L2
/-! ### {k: v for .. in .. if ..}, the keys tuples -/
theorem dT_set {X : Cx} {pins : List (Addr × Obj)} {σ : L2.St} {H : Hp} {s : Shared} {E : Value → Shared → Prop} {D b : Addr} {kvs : List (List Key × V)} {k : List Key} {v : V} {u r : Value} {Q : Unit → Shared → Prop} (hu : X.A.units + 1 < cLine)
    (I : Inv X pins σ H s) (hD : H D = some (.dT kvs)) (hb : H b = some (.tup (k.map kV))) (hz : kvs.length < sizeLine)
    (ry : RelV (.ref b) u) (rv : RelV v r) (h : ∀ s', Inv X pins σ (upd H D (.dT (putK kvs k v))) s' → Q () s') : wpAny (model X.prog X.w) X.A (dictSet D u r) Q E s := by
  obtain rfl : u = Value.ref b := ry
  obtain ⟨z, hd, xs, rel, dd⟩ := dt_of I.hok hD
  have hzv : xs.length ≤ sizeLine := by rw [← Paired.length rel]; exact z
  have hl : (putK kvs k v).length ≤ sizeLine := by
    have := length_putK kvs k v
    omega
  refine wpAny_dictSet_heap (hsz := hzv) (Nat.lt_of_succ_lt hu) (key_of I.hok hb) dd fun h' dd' hs => h _ ?_
  obtain ⟨q, es, ep, hq, h2, h3, h4, _, h5⟩ := dd'
  have new : ObjOk X.prog X.w (upd H D (.dT (putK kvs k v))) h' D (.dT (putK kvs k v)) := ⟨hl, hd, _, (rel.put k hb rv).keeps fun c ys ec => by
    rw [upd_ne (fun e => by subst e; rw [hD] at ec; cases ec)]
    exact ec, q, es, ep, hq, h2, h3, h4, h5⟩
  exact d_write I (by rw [hD]; exact True.intro) hs ⟨q, hq⟩ new
section
variable {X : Cx}
/-- what a dict comprehension with tuples as keys asks; D is the new dict -/
def tDcT (wi : TI) (g : TG) (tt : TT) (tk tv : TE) (vs : List Nat) : TE := fun σ H Q => wi σ H fun J G1 => ∀ D, G1 D = none → ∃ W : Nat → Nat → Hp → Prop, (∃ m, W 0 m (upd G1 D (.dT []))) ∧ ∀ i m H, W i m H →
  (J.stop i H ∧ Q (.ref D) H) ∨ (J.go i H ∧ ∃ Nxt : Hp → Prop, (∀ H', Nxt H' → ∃ m', m' < m ∧ W (i + 1) m' H') ∧ ∀ x H', J.yld i H x H' → g x (wipe σ vs) H' fun σ2 G2 => wipe σ2 vs = wipe σ vs ∧ tt σ2 G2 fun b G3 =>
    if b = true then tk σ2 G3 fun y G4 => tv σ2 G4 fun z G5 => ∃ kvs ks b, y = .ref b ∧ G5 b = some (.tup (ks.map kV)) ∧ G5 D = some (.dT kvs) ∧ kvs.length < sizeLine ∧ Nxt (upd G5 D (.dT (putK kvs ks z))) else Nxt G3)
theorem dcT_core {pins : List (Addr × Obj)} {s : Shared} {σ : L2.St} {H : Hp} {Q : VK} {kx vx tg iter : Expr} {ifs : List Expr} {scope : Scope} {own : List (Str × Nat)} {pos pos' : Pos} {wi : TI} {g : TG} {tt : TT} {tk tv : TE} {us : Option (Value → Sem Unit)} {Qe : Value → Shared → Prop}
    (hu : X.A.units + 1 < cLine) (hc : X.calm = true) (hN : X.N.Nodup) (I : Inv X pins σ H s) (hi : PI X tg iter wi) (ok : BlkOk X.N X.env.scope scope own)
    (hg : ∀ (s : Shared) (H : Hp) (C : Addr) (cl : List (Str × Addr)) (ch : List Addr), PG (X.blk s H scope (compEnvC scope cl C X.env) ch) tg g) (ht : ∀ (s : Shared) (H : Hp) (C : Addr) (cl : List (Str × Addr)) (ch : List Addr), PTs (X.blk s H scope (compEnvC scope cl C X.env) ch) ifs tt)
    (hk : ∀ (s : Shared) (H : Hp) (C : Addr) (cl : List (Str × Addr)) (ch : List Addr), PE (X.blk s H scope (compEnvC scope cl C X.env) ch) kx tk)
    (he : ∀ (s : Shared) (H : Hp) (C : Addr) (cl : List (Str × Addr)) (ch : List Addr), PE (X.blk s H scope (compEnvC scope cl C X.env) ch) vx tv) (hs : ∀ x, foldedSetIterable iter X.env x = pure x)
    (h : tDcT wi g tt tk tv (own.map (·.2)) σ H Q)
    (fin0 : ∀ D C s' m H', Inv X pins σ H' s' → Q (.ref D) H' → s'.heap.Ns C m → FpOk X pins H' C → compPost (model X.prog X.w) X.A X.xe us Qe (.ref D) C (.ok .next) s') :
    wpAny (model X.prog X.w) X.A (comprehension (.DictComp kx vx [⟨tg, iter, ifs, 0⟩] scope pos) scope X.env pos' newDict false (eval iter X.env) us) Qe X.xe s := by
  have hfree : ∀ y ∈ scope.names, y.2 = .free → ∃ c, X.env.cells.lookup y.1 = some c := fun y hy e => by
    rcases ok.free y hy e with k | k
    · exact I.ok.has _ (.inl k)
    · exact I.ok.has _ (.inr k)
  refine wpAny_comprehension_free (use := us) rfl hs (closure_ok hfree) ok.kind (fun y hy e => by rw [ok.uniq y hy, e])
    (thn (hi.run pins s σ H _ I h) fun xv w1 hx => thn hx fun itv w2 h2 => ?_)
  obtain ⟨itr, ch, live, J, G2, e, J2, T, e2, fr2, q⟩ := h2
  subst e
  refine wpAny_newObj_type (newEnv_comp ?_)
  generalize hD : w2.heap.objs.size = D
  have hDn : G2 D = none := J2.hok.fresh (Nat.le_of_eq hD)
  obtain ⟨W, ⟨m0, ww0⟩, turns⟩ := q D hDn
  generalize hs3 : ({ w2 with heap := w2.heap.push { cls := .type "dict", data := .dict #[] } } : Shared) = w3
  have J3 : Inv X pins σ (upd G2 D (.dT [])) w3 := by
    rw [← hs3]
    refine J2.laid (t' := w2.toks) (fun b o e => Heap.get?_push_of_some _ e) (Nat.le_of_eq hD) ?_
    rw [← hD]
    exact dt_empty w2.heap J2.big
  have h3 : w3.heap = w2.heap.push { cls := .type "dict", data := .dict #[] } := by rw [← hs3]
  have small : ∀ b ∈ ch, b < w2.heap.objs.size := fun b hb => by
    obtain ⟨o, e, _⟩ := T.obj _ _ e2 b hb
    exact Heap.lt_size e
  have fr3 : ∀ b ∈ ch, FpOk X pins (upd G2 D (.dT [])) b ∧ b < w3.heap.objs.size := fun b hb => by
    have hlt := small b hb
    refine ⟨⟨?_, (fr2 b hb).2⟩, by rw [h3, Heap.size_push]; exact Nat.lt_succ_of_lt hlt⟩
    rw [upd_ne (by rw [← hD]; exact Nat.ne_of_lt hlt)]
    exact (fr2 b hb).1
  have e3 : live 0 w3.heap := T.keep _ _ _ e2 fun b _ o e => by rw [h3]; exact Heap.get?_push_of_some _ e
  have J4 := block_start J3 ok hN fr3
  have qg := hg w3 (upd G2 D (.dT [])) w3.heap.objs.size (cellsFrom (w3.heap.objs.size + 1) scope.names (cloFrom X.env.cells scope.names [])) ch
  have qt := ht w3 (upd G2 D (.dT [])) w3.heap.objs.size (cellsFrom (w3.heap.objs.size + 1) scope.names (cloFrom X.env.cells scope.names [])) ch
  have qk := hk w3 (upd G2 D (.dT [])) w3.heap.objs.size (cellsFrom (w3.heap.objs.size + 1) scope.names (cloFrom X.env.cells scope.names [])) ch
  have qv := he w3 (upd G2 D (.dT [])) w3.heap.objs.size (cellsFrom (w3.heap.objs.size + 1) scope.names (cloFrom X.env.cells scope.names [])) ch
  show codeAny _ _ (.compStart (.DictComp kx vx [⟨tg, iter, ifs, 0⟩] scope pos) 0 (.ref itr) (.ref D) (compEnvC scope (cellsFrom (w3.heap.objs.size + 1) scope.names (cloFrom X.env.cells scope.names [])) w3.heap.objs.size X.env)) (compPost (model X.prog X.w) X.A X.xe us Qe (.ref D) w3.heap.objs.size) { w3 with heap := pushCells (w3.heap.push { cls := .type "dict", data := .dict #[] }) scope.names }
  have nch : ∀ b ∈ ch, (upd G2 D (.dT [])) b = none := fun b hb => (fr3 b hb).1.1
  generalize hblk : compEnvC scope (cellsFrom (w3.heap.objs.size + 1) scope.names (cloFrom X.env.cells scope.names [])) w3.heap.objs.size X.env = blk at J4 qg qt qk qv ⊢
  have bL : blk.locals = w3.heap.objs.size := by subst hblk; rfl
  generalize hH3 : upd G2 D (.dT []) = G3 at J3 J4 qg qt qk qv ww0 nch fr3
  generalize hs4 : ({ w3 with heap := pushCells (w3.heap.push { cls := .type "dict", data := .dict #[] }) scope.names } : Shared) = w4 at J4 ⊢
  have e4 : live 0 w4.heap := T.keep _ _ _ e3 fun b _ o e => by rw [← hs4]; exact pushCells_keeps _ _ _ _ (Heap.get?_push_of_some _ e)
  have still : ∀ {σ' : L2.St} {H' : Hp} {s' : Shared}, Inv (X.blk w3 G3 scope blk ch) [] σ' H' s' → (∀ b ∈ ch, H' b = none) → ∀ b ∈ ch, FpOk (X.blk w3 G3 scope blk ch) [] H' b := fun {σ' H' s'} I' hn b hb =>
    ⟨hn b hb, (I'.ok.exf b hb).1, I'.ok.exfs b hb, .inl hb, fun x c e => (I'.ok.exf b hb).2 x c e, fun p hp => absurd (show p ∈ ([] : List (Addr × Obj)) ++ [] from hp) (by simp)⟩
  have all : codeAny (model X.prog X.w) X.A (.compLoop (.DictComp kx vx [⟨tg, iter, ifs, 0⟩] scope pos) 0 (.ref itr) (.ref D) blk) (compPost (model X.prog X.w) X.A X.xe us Qe (.ref D) w3.heap.objs.size) w4 := by
    refine L2.compLoop_anyD (fun n s' => ∃ i H', Inv (X.blk w3 G3 scope blk ch) [] (wipe σ (own.map (·.2))) H' s' ∧ live i s'.heap ∧ (∀ b ∈ ch, H' b = none) ∧ W i n H') ?_ m0 ⟨0, G3, J4, e4, nch, ww0⟩
    rintro n w5 ⟨i, G5, J5, e5, nn5, ww5⟩
    rcases turns i n G5 ww5 with ⟨ends, qq⟩ | ⟨goes, Nxt, dec, turn1⟩
    · have td := T.done (X.blk w3 G3 scope blk ch) rfl rfl rfl hc i [] w5 _ G5 (fun _ _ => False) J5 (still J5 nn5) e5 ends
      refine thnF td fun r w6 ⟨hr, J6⟩ => ?_
      subst hr
      have J7 : Inv X pins σ G5 w6 := J3.call' (ch := ch) J6.os J6.base J6.hok J6.bare fun b hb => ⟨(fr3 b hb).1.2.2.2.1, (fr3 b hb).1.2.1, (fr3 b hb).1.2.2.2.2.1, (fr3 b hb).1.2.2.2.2.2⟩
      have nC : G5 w3.heap.objs.size = none := by
        have z : G5 blk.locals = none := J6.free
        rw [bL] at z
        exact z
      obtain ⟨m, hn, _⟩ := J6.loc
      have hn : w6.heap.Ns blk.locals m := hn
      rw [bL] at hn
      exact fin0 D w3.heap.objs.size w6 m G5 J7 qq hn (J3.fpOk (Nat.le_refl _) nC)
    · have ti := T.item (X.blk w3 G3 scope blk ch) rfl rfl rfl hc i [] w5 _ G5 (fun _ _ => False) J5 (still J5 nn5) e5 goes
      refine thnF ti fun r w6 ⟨u, hr, h6⟩ => ?_
      subst hr
      refine thnF h6 fun _ w7 ⟨x, G7, J7, r7, y7, e7, nn7⟩ => ?_
      have J7' := J7.pinned (still J7 nn7) (T.obj _ _ e7)
      refine thnF (qg.run _ w7 _ G7 x u _ J7' r7 (turn1 x G7 y7)) fun _ w8 ⟨σ8, G8, J8, hw8, q8⟩ => ?_
      refine thnF (qt.run _ w8 σ8 G8 _ J8 q8) fun b w9 ⟨G9, J9, q9⟩ => ?_
      have fin : ∀ {s' : Shared} {H' : Hp}, Inv (X.blk w3 G3 scope blk ch) ([] ++ pinsAt ch w7.heap) σ8 H' s' → Nxt H' → ∃ m, m < n ∧ ∃ i H', Inv (X.blk w3 G3 scope blk ch) [] (wipe σ (own.map (·.2))) H' s' ∧ live i s'.heap ∧ (∀ b ∈ ch, H' b = none) ∧ W i m H' := fun {s' H'} I' nx => by
        obtain ⟨m', hm, w'⟩ := dec H' nx
        have pin' : ∀ b ∈ ch, ∀ o, w7.heap.get? b = some o → s'.heap.get? b = some o ∧ H' b = none := fun b hb o e =>
          let z := I'.pin (b, o) (List.mem_append_right _ (List.mem_append_right _ (mem_pinsAt hb e)))
          ⟨z.1, z.2.1⟩
        have hl : (wipe σ (own.map (·.2))).length = σ8.length := by rw [← hw8, wipe_length]
        refine ⟨m', hm, i + 1, H', (I'.unpinned (pins := [])).weak hl (fun j v e => ?_), T.keep _ _ _ e7 fun b hb o e => (pin' b hb o e).1, fun b hb => ?_, w'⟩
        · rw [← hw8] at e
          exact (wipe_some e).1
        · obtain ⟨o, e, _⟩ := T.obj _ _ e7 b hb
          exact (pin' b hb o e).2
      cases b with
      | false =>
        simp only [Bool.false_eq_true, if_false] at q9 ⊢
        exact fin J9 q9
      | true =>
        simp only [if_true] at q9 ⊢
        refine thnF (qk.run _ w9 σ8 G9 _ J9 q9) fun z w10 ⟨yk, G10, J10, r10, q10⟩ => ?_
        refine thnF (qv.run _ w10 σ8 G10 _ J10 q10) fun z2 w11 ⟨yv, G11, J11, r11, kvs, ks, b0, ek, hb11, hD11, hz11, nx⟩ => ?_
        subst ek
        exact dT_set hu (X := X.blk w3 G3 scope blk ch) J11 hD11 hb11 hz11 r10 r11 fun w12 J12 => fin J12 nx
  exact codeAny_compStart_dict all (T.self X.A 0 _ _ _ e4 all)
theorem pe_dcT {kx vx tg iter : Expr} {ifs : List Expr} {scope : Scope} {own : List (Str × Nat)} {pos : Pos} {wi : TI} {g : TG} {tt : TT} {tk tv : TE} (hu : X.A.units + 1 < cLine) (hc : X.calm = true) (hN : X.N.Nodup) (hi : PI X tg iter wi) (ok : BlkOk X.N X.env.scope scope own)
    (hg : ∀ (s : Shared) (H : Hp) (C : Addr) (cl : List (Str × Addr)) (ch : List Addr), PG (X.blk s H scope (compEnvC scope cl C X.env) ch) tg g) (ht : ∀ (s : Shared) (H : Hp) (C : Addr) (cl : List (Str × Addr)) (ch : List Addr), PTs (X.blk s H scope (compEnvC scope cl C X.env) ch) ifs tt)
    (hk : ∀ (s : Shared) (H : Hp) (C : Addr) (cl : List (Str × Addr)) (ch : List Addr), PE (X.blk s H scope (compEnvC scope cl C X.env) ch) kx tk)
    (he : ∀ (s : Shared) (H : Hp) (C : Addr) (cl : List (Str × Addr)) (ch : List Addr), PE (X.blk s H scope (compEnvC scope cl C X.env) ch) vx tv) (hs : ∀ x, foldedSetIterable iter X.env x = pure x := by intro _; rfl) :
    PE X (.DictComp kx vx [⟨tg, iter, ifs, 0⟩] scope pos) (tDcT wi g tt tk tv (own.map (·.2))) := by
  refine ⟨fun pins s σ H Q I h => ?_⟩
  rw [arm_eval_DictComp]
  refine dcT_core hu hc hN I hi ok hg ht hk he hs h fun D C s' m H' I' q hn f => ⟨m, hn, fun h'' sb => ?_⟩
  obtain ⟨f0, f1, fr2, fr3, f4, f5⟩ := f
  exact ⟨.ref D, H', I'.turned (t' := s'.toks) (fun b o hb e => (sb.2 b hb).trans e) f0 f1 fr3 f4 f5, rfl, q⟩
end
/-! ### the value layer's part -/
section
variable {J : It} {n : Nat} {G : Hp → Prop} {Y : Nat → Hp → V → Hp → Prop}
theorem dcT_it (w : Walk J n G Y) {g : TG} {tt : TT} {tk tv : TE} {vs : List Nat} {σ : L2.St} {H1 : Hp} {D : Addr} {Qd : Hp → Prop} (Pv : Nat → Hp → Prop) (h0 : Pv 0 (upd H1 D (.dT []))) (hG : ∀ i H, i ≤ n → Pv i H → G H)
    (hs : ∀ i x H H', i < n → Pv i H → Y i H x H' → g x (wipe σ vs) H' fun σ2 H2 => wipe σ2 vs = wipe σ vs ∧ tt σ2 H2 fun b H3 =>
      if b = true then tk σ2 H3 fun y H4 => tv σ2 H4 fun z H5 => ∃ kvs ks b, y = .ref b ∧ H5 b = some (.tup (ks.map kV)) ∧ H5 D = some (.dT kvs) ∧ kvs.length < sizeLine ∧ Pv (i + 1) (upd H5 D (.dT (putK kvs ks z))) else Pv (i + 1) H3) (hd : ∀ H, Pv n H → Qd H) :
    ∃ W : Nat → Nat → Hp → Prop, (∃ m, W 0 m (upd H1 D (.dT []))) ∧ ∀ i m H, W i m H →
      (J.stop i H ∧ Qd H) ∨ (J.go i H ∧ ∃ Nx : Hp → Prop, (∀ H', Nx H' → ∃ m', m' < m ∧ W (i + 1) m' H') ∧ ∀ x H', J.yld i H x H' → g x (wipe σ vs) H' fun σ2 H2 => wipe σ2 vs = wipe σ vs ∧ tt σ2 H2 fun b H3 =>
        if b = true then tk σ2 H3 fun y H4 => tv σ2 H4 fun z H5 => ∃ kvs ks b, y = .ref b ∧ H5 b = some (.tup (ks.map kV)) ∧ H5 D = some (.dT kvs) ∧ kvs.length < sizeLine ∧ Nx (upd H5 D (.dT (putK kvs ks z))) else Nx H3) := by
  refine ⟨fun i m H => m = n - i ∧ i ≤ n ∧ Pv i H, ⟨n, by simp, Nat.zero_le _, h0⟩, fun i m H hh => ?_⟩
  obtain ⟨em, hi, p⟩ := hh
  have gg := hG i H hi p
  rcases Nat.lt_or_ge i n with hlt | hge
  · exact .inr ⟨w.goes i H hlt gg, Pv (i + 1), fun H' p' => ⟨n - (i + 1), by omega, rfl, hlt, p'⟩, fun x H' y => hs i x H H' hlt p (w.yields i H x H' hlt gg y)⟩
  · obtain rfl : i = n := by omega
    exact .inl ⟨w.stops H gg, hd H p⟩
end
/-- within a dict comprehension: the new dict is DD -/
structure BKd (K : PySem.W.Frag) (Tl : List Nat) (Z1 : Addr → Prop) (ρ1 : Env) (Fs1 : Ft) (H1 : Hp) (DD : Addr) (acc : List (D × D)) (Z : Addr → Prop) (ρ : Env) (Fs : Ft) (H : Hp) (τ : L2.St) : Prop where
  rel : Rel K Z ρ τ H Fs
  frm : Frm Tl Z1 ρ1 Fs1 H1 Z ρ Fs H
  val : Val K Z H Fs [] true (.dct true true acc) (.ref DD) [DD]
section
variable {K : PySem.W.Frag} {Z Z' Z1 Z2 : Addr → Prop} {ρ ρ' ρ1 ρ2 : Env} {Fs Fs' Fs1 Fs2 : Ft} {H H' H1 H2 : Hp} {Tl T' : List Nat} {d : D} {v : V} {σ τ τ' : L2.St} {DD : Addr} {acc : List (D × D)}
theorem BKd.step (b : BKd K Tl Z1 ρ1 Fs1 H1 DD acc Z ρ Fs H τ) (rel : Rel K Z' ρ' τ' H' Fs') (f : Frm T' Z ρ Fs H Z' ρ' Fs' H') (hT : ∀ j ∈ T', j ∈ Tl) : BKd K Tl Z1 ρ1 Fs1 H1 DD acc Z' ρ' Fs' H' τ' :=
  ⟨rel, (b.frm.trans f).mono fun j hj => (List.mem_append.mp hj).elim id (hT j), b.val.keep b.rel f (by simp [safe])⟩
theorem BKd.keep0 (b : BKd K Tl Z1 ρ1 Fs1 H1 DD acc Z ρ Fs H τ) (k : Keep M0 H H') : BKd K Tl Z1 ρ1 Fs1 H1 DD acc Z ρ Fs H' τ := b.step (b.rel.keep0 k) (Frm.pure k) fun _ h => (by cases h)
theorem BKd.wipe (b : BKd K Tl Z1 ρ1 Fs1 H1 DD acc Z ρ Fs H τ) (vs : List Nat) (hl : τ'.length = τ.length) (h : ∀ i, i ∉ vs → τ'[i]? = τ[i]?) (hv : ∀ j ∈ vs, j ∈ Tl) : BKd K Tl Z1 ρ1 Fs1 H1 DD acc Z (wipeE ρ vs) (dropF Fs vs) H τ' :=
  ⟨b.rel.wipe vs hl h, (b.frm.trans (Frm.wipe vs)).mono fun j hj => (List.mem_append.mp hj).elim id (hv j), b.val.wipe⟩
theorem BKd.put {ks : List Key} {c : Addr} (b : BKd K Tl Z1 ρ1 Fs1 H1 DD acc Z ρ Fs H τ) (hc : H c = some (.tup (ks.map kV))) (rv : R K Z H d v []) (hno : D.noOwnP acc = true) (hsz : szOk acc.length = true) (hD : H1 DD = none) :
    ∃ ws, H DD = some (.dT ws) ∧ ws.length < sizeLine ∧ BKd K Tl Z1 ρ1 Fs1 H1 DD (putD acc (encT ks) d) Z ρ Fs (upd H DD (.dT (putK ws ks v))) τ := by
  obtain ⟨a, ws, G, ea, eF, ha, dr⟩ := b.val.r.dctT_ow
  cases ea
  have e0 : G = [] := dr.rs.no (by rw [← noOwnP_eq]; exact hno)
  subst e0
  have hl : acc.length = ws.length := by have := dr.rs.length; simpa using this
  obtain ⟨nd, nz⟩ := b.val.exc rfl
  have kp : Keep (fun b => b = DD) H (upd H DD (.dT (putK ws ks v))) := Keep.wr ha trivial
  have hz : ∀ b, Z b → ¬ b = DD := fun x z e => nz DD List.mem_cons_self (by rw [← e]; exact z)
  have dr2 := dr.put kEq_encT rv (k := ks)
  have hnf : ∀ j, DD ∉ Fs j := fun j h => absurd (b.val.ori j DD List.mem_cons_self h) (by simp)
  refine ⟨ws, ha, by rw [← hl]; exact sz_lt hsz, b.rel.wr ha trivial hnf (nz DD List.mem_cons_self), b.frm.wr hD ha trivial, ⟨DRel.atT upd_same ⟨dr2.ks, dr2.rs.keep kp (fun _ h => h) hz fun b hb => (by cases hb)⟩, b.val.ori, fun _ => ⟨nd, nz⟩⟩⟩
end
def dcL (vs : List Nat) (g : D → Env → Option Env) (ft : M Bool) (fk fv : M D) : List D → Env → List (D × D) → Option (List (D × D) × Env)
  | [], ρ, acc => some (acc, ρ)
  | d :: ds, ρ, acc => (g d (wipeE ρ vs)).bind fun ρ1 => (ft ρ1).bind fun p => if p.1 = true then (fk p.2).bind fun q => (fv q.2).bind fun r => (keyT q.1).bind fun _ => if (D.noOwnP acc && r.1.noOwn && szOk acc.length) = true then dcL vs g ft fk fv ds r.2 (putD acc q.1 r.1) else none
    else dcL vs g ft fk fv ds p.2 acc
def fDcT (vs : List Nat) (fi : M (List D)) (g : D → Env → Option Env) (ft : M Bool) (fk fv : M D) : M D := fun ρ => (fi ρ).bind fun p => if ownOk p.2 vs = true then (dcL vs g ft fk fv p.1 p.2 []).bind fun q => some (.dct true true q.1, backE p.2 q.2 vs) else none
end Vl

namespace Vl
open PySem PySem.Calls PyProof.Rows PyProof.V PySem.Spec L2
section
variable {X : Cx} {T O Ok Ov W Wg Tg Tt Tk Tv : List Nat} {xk xv : Bool} {tg iter kx vx : Expr} {ifs : List Expr} {fi : M (List D)} {ft : M Bool} {fk fv : M D} {pos : Pos} {g : D → Env → Option Env}
theorem tv_dcT (vs : List Nat) (hW : Wg.all (fun i => vs.contains i) = true) (ho : O.all (fun i => !(vs ++ (Tg ++ (Tt ++ (Tk ++ Tv)))).contains i) = true) {σ : L2.St} {H : Hp} {Q : VK} (h : tV X.K (T ++ ((vs ++ (Tg ++ (Tt ++ (Tk ++ Tv)))) ++ vs)) [] true (fDcT vs fi g ft fk fv) σ H Q) :
    tDcT (tVI X.K T O fi) (tVG X.K Wg Tg g) (tVT X.K Tt ft) (tV X.K Tk Ok xk fk) (tV X.K Tv Ov xv fv) vs σ H Q := by
  obtain ⟨Z, ρ, Fs, d, ρ', rel, hf, q⟩ := h
  unfold fDcT at hf
  obtain ⟨⟨items, ρ1⟩, h1, hf⟩ := Option.bind_eq_some_iff.mp hf
  split at hf
  · rename_i hok
    obtain ⟨⟨res, ρ2⟩, h2, hf⟩ := Option.bind_eq_some_iff.mp hf
    cases hf
    refine ⟨Z, ρ, Fs, items, ρ1, rel, h1, fun J H1 Z1 Fs1 A G Y rel1 f1 wk hA stay DD hDD => ?_⟩
    have inTl : ∀ {j}, j ∈ vs ∨ j ∈ Tg ∨ j ∈ Tt ∨ j ∈ Tk ∨ j ∈ Tv → j ∈ vs ++ (Tg ++ (Tt ++ (Tk ++ Tv))) := fun {j} h => by
      simp only [List.mem_append]
      exact h
    generalize hTl : vs ++ (Tg ++ (Tt ++ (Tk ++ Tv))) = Tl at q ho inTl
    have far : ∀ a ∈ A, ¬ ∃ j ∈ Tl, a ∈ Fs1 j := fun a ha ⟨j, hj, hf⟩ => by
      have z := List.all_eq_true.mp ho j (hA j a ha hf)
      simp only [Bool.not_eq_true', List.contains_eq_mem, decide_eq_false_iff_not] at z
      exact z hj
    have znot : ∀ a, Z1 a → ¬ ∃ j ∈ Tl, a ∈ Fs1 j := fun a z ⟨j, _, ha⟩ => rel1.nz j a ha z
    have k0 : Keep M0 H1 (upd H1 DD (.dT [])) := Keep.new hDD
    have inW : ∀ j ∈ Wg, j ∈ vs := fun j hj => by simpa using List.all_eq_true.mp hW j hj
    have b0 : BKd X.K Tl Z1 ρ1 Fs1 H1 DD [] Z1 (wipeE ρ1 vs) (dropF Fs1 vs) (upd H1 DD (.dT [])) (wipe σ vs) := by
      have b : BKd X.K Tl Z1 ρ1 Fs1 H1 DD [] Z1 ρ1 Fs1 (upd H1 DD (.dT [])) σ := by
        refine ⟨rel1.keep0 k0, Frm.pureT _ k0, ⟨.dow ⟨_, upd_same, [], rfl, rfl, rfl⟩ .nil, fun j a h1 h2 => ?_, fun _ => ⟨by simp, fun a ha z => ?_⟩⟩⟩
        · have e : a = DD := by simpa using h1
          exact absurd hDD (by rw [← e]; exact rel1.ft j a h2)
        · have e : a = DD := by simpa using ha
          exact rel1.zt a z (by rw [e]; exact hDD)
      exact b.wipe vs (wipe_length _ _) (fun i hi => wipe_out' hi) fun j hj => inTl (.inl hj)
    refine dcT_it wk (vs := vs) (fun i Hi => ∃ Zi ρi Fsi acc, BKd X.K Tl Z1 ρ1 Fs1 H1 DD acc Zi (wipeE ρi vs) Fsi Hi (wipe σ vs) ∧ ρi.length = ρ1.length ∧ dcL vs g ft fk fv (items.drop i) ρi acc = some (res, ρ2)) ?_ ?_ ?_ ?_
    · exact ⟨Z1, ρ1, _, [], b0, rfl, by rw [List.drop_zero]; exact h2⟩
    · intro i Hi hi ⟨Zi, ρi, Fsi, acc, b, hl, hc⟩
      exact (stay _ Zi Hi b.frm.keep far znot b.frm.zz).1
    · intro i v Hi H' hi ⟨Zi, ρi, Fsi, acc, b, hl, hc⟩ y
      have hd : items[i]? = some items[i] := List.getElem?_eq_getElem hi
      obtain ⟨k, rv⟩ := (stay _ Zi Hi b.frm.keep far znot b.frm.zz).2 i v H' _ y hd
      rw [List.drop_eq_getElem_cons hi] at hc
      obtain ⟨ρg, hg1, hc⟩ := Option.bind_eq_some_iff.mp hc
      obtain ⟨⟨bt, ρt⟩, ht1, hc⟩ := Option.bind_eq_some_iff.mp hc
      have b1 := b.keep0 k
      refine ⟨Zi, wipeE ρi vs, Fsi, items[i], ρg, b1.rel, rv, hg1, fun σ2 H2 Z2 Fs2 fn2 => ⟨?_, ?_⟩⟩
      · refine wipe_eq (by rw [fn2.sl, wipe_length]) fun j hj => ?_
        rw [fn2.sg j fun z => hj (inW j z), wipe_out' hj]
      · have b2 := b1.step fn2.rel fn2.frm fun j hj => inTl (.inr (.inl hj))
        have outs2 : ∀ j, j ∉ vs → (wipe σ vs)[j]? = σ2[j]? := fun j hj => (fn2.sg j fun z => hj (inW j z)).symm
        refine ⟨Z2, ρg, Fs2, bt, ρt, fn2.rel, ht1, fun H3 Z3 Fs3 rel3 f3 => ?_⟩
        have b3 := b2.step rel3 f3 fun j hj => inTl (.inr (.inr (.inl hj)))
        cases bt with
        | false =>
          refine iteF ?_
          rw [if_neg Bool.false_ne_true] at hc
          exact ⟨Z3, ρt, _, acc, b3.wipe vs (by rw [fn2.sl]) outs2 fun j hj => inTl (.inl hj), b3.frm.len, hc⟩
        | true =>
          refine iteT ?_
          rw [if_pos rfl] at hc
          obtain ⟨⟨dk, ρk⟩, hk1, hc⟩ := Option.bind_eq_some_iff.mp hc
          obtain ⟨⟨dv, ρv⟩, hv1, hc⟩ := Option.bind_eq_some_iff.mp hc
          obtain ⟨ks, hks, hc⟩ := Option.bind_eq_some_iff.mp hc
          split at hc
          · rename_i hz
            simp only [Bool.and_eq_true] at hz
            refine ⟨Z3, ρt, Fs3, dk, ρk, rel3, hk1, fun v4 H4 Z4 Fs4 F4 rel4 f4 w4 c4 => ?_⟩
            have b4 := b3.step rel4 f4 fun j hj => inTl (.inr (.inr (.inr (.inl hj))))
            obtain ⟨c, rfl, hcT, rfl⟩ := R.keyT hks w4.r
            refine ⟨Z4, ρk, Fs4, dv, ρv, rel4, hv1, fun v5 H5 Z5 Fs5 F5 rel5 f5 w5 c5 => ?_⟩
            have b5 := b4.step rel5 f5 fun j hj => inTl (.inr (.inr (.inr (.inr hj))))
            have e5 := w5.r.no hz.1.2
            subst e5
            have hc5 : H5 c = some (.tup (ks.map kV)) := f5.keep.tup _ _ hcT
            obtain ⟨ws, hw1, hw2, b6⟩ := b5.put hc5 w5.r hz.1.1 hz.2 hDD
            exact ⟨ws, ks, c, rfl, hc5, hw1, hw2, Z5, ρv, _, _, b6.wipe vs (by rw [fn2.sl]) outs2 fun j hj => inTl (.inl hj), b6.frm.len, hc⟩
          · cases hc
    · intro Hi ⟨Zi, ρi, Fsi, acc, b, hl, hc⟩
      rw [List.drop_length] at hc
      cases hc
      have rb := Rel.back rel1 hok b.rel b.frm
      have fb := Frm.back (vs := vs) b.frm
      rw [backE_wipe hl] at rb fb
      have c0 : Cf Tl Fs1 H1 true [DD] := fun _ a ha => .inr (by
        have e : a = DD := by simpa using ha
        rw [e]
        exact hDD)
      exact q (.ref DD) Hi Zi _ [DD] rb (f1.trans fb) b.val.wipe (Cf.late f1 (c0.mono fun j hj => List.mem_append_left _ hj))
  · cases hf
/-- {k: v for .. in SLOT.items() if ..} -/
theorem pev_dcI (i : Nat) {scope : Scope} {own : List (Str × Nat)} (hu : X.A.units + 1 < cLine) (hc : X.calm = true) (hN : X.N.Nodup) (hi : PI X tg iter (tVIi X.K i)) (ok : BlkOk X.N X.env.scope scope own)
    (hg : ∀ (s : Shared) (H : Hp) (C : Addr) (cl : List (Str × Addr)) (fp : List Addr), PGV (X.blk s H scope (compEnvC scope cl C X.env) fp) Wg Tg tg g) (ht : ∀ (s : Shared) (H : Hp) (C : Addr) (cl : List (Str × Addr)) (fp : List Addr), PTsV (X.blk s H scope (compEnvC scope cl C X.env) fp) Tt ifs ft)
    (hk : ∀ (s : Shared) (H : Hp) (C : Addr) (cl : List (Str × Addr)) (fp : List Addr), PEV (X.blk s H scope (compEnvC scope cl C X.env) fp) Tk Ok xk kx fk)
    (hv : ∀ (s : Shared) (H : Hp) (C : Addr) (cl : List (Str × Addr)) (fp : List Addr), PEV (X.blk s H scope (compEnvC scope cl C X.env) fp) Tv Ov xv vx fv) (hW : Wg.all (fun i => (own.map (·.2)).contains i) = true := by rfl)
    (hs : ∀ x, foldedSetIterable iter X.env x = pure x := by intro _; rfl) :
    PEV X (i :: ([] ++ (((own.map (·.2)) ++ (Tg ++ (Tt ++ (Tk ++ Tv)))) ++ (own.map (·.2))))) [] true (.DictComp kx vx [⟨tg, iter, ifs, 0⟩] scope pos) (fDk i (fDcT (own.map (·.2)) (iIts i) g ft fk fv)) :=
  PE.imp (PE.orLock (pe_dcT hu hc hN hi ok hg ht hk hv hs)) fun σ H Q h => by
    refine tve_lock i ?_ h
    intro σ H Q lk q
    exact ⟨lk, tv_dcT (X := X) (T := []) (O := []) (Ok := Ok) (Ov := Ov) (xk := xk) (xv := xv) _ hW rfl q⟩
end
end Vl

namespace Vl
open PySem PySem.Calls PyProof.Rows PyProof.V PySem.Spec L2
/-! ### {k: v, ..}, the keys tuples -/
abbrev KE3 := List Key × Addr × V
def mergeT (ws : List (List Key × V)) (more : List KE3) : List (List Key × V) := more.foldl (fun acc e => putK acc e.1 e.2.2) ws
theorem mergeT_len : ∀ (more : List KE3) (ws : List (List Key × V)), (mergeT ws more).length ≤ ws.length + more.length
  | [], ws => Nat.le_refl _
  | e :: r, ws => by
    have h1 := mergeT_len r (putK ws e.1 e.2.2)
    have h2 := length_putK ws e.1 e.2.2
    show (mergeT (putK ws e.1 e.2.2) r).length ≤ _
    rw [List.length_cons]
    omega
theorem carriesT {P : Program} {w : World} {H : Hp} {h : Heap} (ok : HOk P w H h) : ∀ {kvs : List KE3} {ws : List (Value × Value)}, VV (kvs.map fun e => (V.ref e.2.1, e.2.2)) ws → (∀ e ∈ kvs, H e.2.1 = some (.tup (e.1.map kV))) →
    ∃ rs : List (List Key × Addr × Value), CarriesH (tupleKind (mixKind P w)) h ws rs ∧ ∀ xs us, KT H us xs → KT H (mergeT us kvs) (storedAllH xs rs)
  | [], _, r, _ => by
    rw [List.map_nil] at r
    cases r
    exact ⟨[], True.intro, fun xs us k => k⟩
  | e :: kvs, _, r, hk => by
    rw [List.map_cons] at r
    cases r with
    | @cons a b as bs h1 t =>
      obtain ⟨rs, c, q⟩ := carriesT ok t fun e he => hk e (List.mem_cons_of_mem _ he)
      obtain ⟨b1, b2⟩ := b
      obtain ⟨h2, h3⟩ := h1
      have h2 : b1 = Value.ref e.2.1 := h2
      have he := hk e List.mem_cons_self
      exact ⟨(e.1, e.2.1, b2) :: rs, ⟨h2, rfl, key_of ok he, c⟩, fun xs us k => q _ _ (k.put e.1 he h3)⟩
def tDispT (trs : List (TE × TE)) : TE := fun σ H Q => ∀ p, H p = none → tPairs trs σ (upd H p (.dT [])) fun ps H2 => H2 p = some (.dT []) ∧ ∃ kvs : List KE3, ps = kvs.map (fun e => (V.ref e.2.1, e.2.2)) ∧ (∀ e ∈ kvs, H2 e.2.1 = some (.tup (e.1.map kV))) ∧ kvs.length ≤ 15 ∧ Q (.ref p) (upd H2 p (.dT (mergeT [] kvs)))
theorem pe_dispT {X : Cx} {pos : Pos} {keys : List (Option Expr)} {values : List Expr} {trs : List (TE × TE)} (hu : X.A.units + 1 < cLine) (h : PPs X pos keys values trs) (hall : keys.all (·.isSome) = true) (hl : keys.length = values.length) (h0 : keys ≠ [])
    (h15 : keys.length ≤ 15) : PE X (.Dict keys values pos) (tDispT trs) := by
  refine ⟨fun pins s σ H Q I q => ?_⟩
  have hn := I.hok.fresh (Nat.le_refl s.heap.objs.size)
  have I1 := I.laid (a := s.heap.objs.size) (o := .dT []) (h' := s.heap.push { cls := .type "dict", data := .dict #[] }) (t' := s.toks) (fun _ _ q => Heap.get?_push_of_some _ q) (Nat.le_refl _) (dt_empty s.heap I.big)
  have hn2 := pairTrees_length keys values X.env pos hall hl
  have ne : pairTrees keys values X.env pos ≠ [] := fun z => by
    rw [z] at hn2
    exact h0 (List.length_eq_zero_iff.mp hn2.symm)
  rw [arm_eval_Dict, zip_pairTrees keys values X.env pos hall hl, dictDisplay_pairs (pairTrees keys values X.env pos) ne (by omega)]
  refine wpAny_bind (wpAny_standAt (wpAny_bind (wpAny_subDictH (knd := tupleKind (mixKind X.prog X.w)) (Q := fun d s' => wpAny (model X.prog X.w) X.A (pure (Value.ref d)) _ X.xe s') (Nat.lt_of_succ_lt hu) (by omega)
    (thn (h.run pins _ σ _ _ I1 (q _ hn)) fun vs s2 ⟨ps, H2, I2, rel, e, kvs, ep, hk, lk, q2⟩ => ?_))))
  subst ep
  obtain ⟨rs, c, km⟩ := carriesT I2.hok rel hk
  obtain ⟨z, hd, xs, pr, dd⟩ := dt_of I2.hok e
  cases pr
  refine ⟨rs, c, dd, fun h' tk dd' hs => wpAny_pure ?_⟩
  have hz : (mergeT [] kvs).length ≤ sizeLine := by
    have h1 := mergeT_len kvs []
    rw [List.length_nil] at h1
    rw [sizeLine_eq]
    omega
  obtain ⟨o, es, ep, hq, h2, h3, h4, _, h5⟩ := dd'
  have kt := km [] [] .nil
  have new : ObjOk X.prog X.w (upd H2 s.heap.objs.size (.dT (mergeT [] kvs))) h' s.heap.objs.size (.dT (mergeT [] kvs)) := ⟨hz, hd, _, kt.keeps fun c ys ec => by
    rw [upd_ne (fun z => by subst z; rw [e] at ec; cases ec)]
    exact ec, o, es, ep, hq, h2, h3, h4, h5⟩
  exact ⟨.ref s.heap.objs.size, _, d_write I2 (by rw [e]; exact True.intro) hs ⟨o, hq⟩ new, rfl, q2⟩
end Vl

namespace Vl
open PySem PySem.Calls PyProof.Rows PyProof.V PySem.Spec L2
def fPairsT : List (M D × M D) → M (List (D × D))
  | [] => fun ρ => some ([], ρ)
  | (fk, fv) :: r => fun ρ => (fk ρ).bind fun p => (fv p.2).bind fun q => (fPairsT r q.2).bind fun s => if (q.1.noOwn && (keyT p.1).isSome) = true then some ((p.1, q.1) :: s.1, s.2) else none
def fDispT (ps : List (M D × M D)) : M D := fun ρ => (fPairsT ps ρ).bind fun p => some (.dct true true (p.1.foldl (fun acc kv => putD acc kv.1 kv.2) []), p.2)
/-- the pairs, the addresses of their keys told -/
structure KR (K : PySem.W.Frag) (Z : Addr → Prop) (H : Hp) (kvs : List (D × D)) (es : List KE3) : Prop where
  ks : kvs.map (·.1) = es.map fun e => encT e.1
  tr : ∀ e ∈ es, H e.2.1 = some (.tup (e.1.map kV))
  rs : Rs K Z H (kvs.map (·.2)) (es.map fun e => e.2.2) []
structure PPVT (X : Cx) (pos : Pos) (T : List Nat) (keys : List (Option Expr)) (values : List Expr) (ps : List (M D × M D)) : Prop where
  ok : ∃ trs, PPs X pos keys values trs ∧ ∀ (Q : List (V × V) → Hp → Prop) (σ : L2.St) (Z : Addr → Prop) (ρ : Env) (Fs : Ft) (H : Hp) (kvs : List (D × D)) (ρ' : Env), Rel X.K Z ρ σ H Fs → fPairsT ps ρ = some (kvs, ρ') →
    (∀ (es : List KE3) (H' : Hp) (Z' : Addr → Prop) (Fs' : Ft), Rel X.K Z' ρ' σ H' Fs' → Frm T Z ρ Fs H Z' ρ' Fs' H' → KR X.K Z' H' kvs es → Q (es.map fun e => (V.ref e.2.1, e.2.2)) H') → tPairs trs σ H Q
section
variable {X : Cx} {T1 T2 T3 O1 O2 : List Nat} {x1 x2 : Bool} {k v : Expr} {ks : List (Option Expr)} {vs : List Expr} {fk fv : M D} {ps : List (M D × M D)} {pos : Pos}
theorem ppt_nil : PPVT X pos [] [] [] [] := ⟨[], pps_nil, fun Q σ Z ρ Fs H kvs ρ' rel hf q => by
  cases hf
  exact q [] H Z Fs rel (Frm.refl _) ⟨rfl, fun e he => (by cases he), .nil⟩⟩
theorem ppt_cons (hk : PEV X T1 O1 x1 k fk) (hv : PEV X T2 O2 x2 v fv) (hr : PPVT X pos T3 ks vs ps) : PPVT X pos (T1 ++ (T2 ++ T3)) (some k :: ks) (v :: vs) ((fk, fv) :: ps) := by
  obtain ⟨trs, h1, h2⟩ := hr.ok
  refine ⟨_, pps_cons hk hv h1, fun Q σ Z ρ Fs H kvs ρ' rel hf q => ?_⟩
  unfold fPairsT at hf
  obtain ⟨⟨dk, ρ1⟩, e1, hf⟩ := Option.bind_eq_some_iff.mp hf
  obtain ⟨⟨dv, ρ2⟩, e2, hf⟩ := Option.bind_eq_some_iff.mp hf
  obtain ⟨⟨rest, ρ3⟩, e3, hf⟩ := Option.bind_eq_some_iff.mp hf
  split at hf
  · rename_i hn
    cases hf
    rw [Bool.and_eq_true] at hn
    obtain ⟨n2, n3⟩ := hn
    obtain ⟨kk, hkk⟩ := Option.isSome_iff_exists.mp n3
    refine ⟨Z, ρ, Fs, dk, ρ1, rel, e1, fun w1 H1 Z1 Fs1 F1 rel1 f1 v1 c1 => ?_⟩
    obtain ⟨c, rfl, hc, rfl⟩ := R.keyT hkk v1.r
    refine ⟨Z1, ρ1, Fs1, dv, ρ2, rel1, e2, fun w2 H2 Z2 Fs2 F2 rel2 f2 v2 c2 => ?_⟩
    refine h2 _ σ Z2 ρ2 Fs2 H2 rest _ rel2 e3 fun es H3 Z3 Fs3 rel3 f3 kr => ?_
    have e := v2.r.no n2
    have r2 := v2.r
    rw [e] at r2
    have r3 := r2.keep f3.keep f3.zz (fun a z ⟨j, hj, ha⟩ => rel2.nz j a ha z) fun _ h => (by cases h)
    have hc3 : H3 c = some (.tup (kk.map kV)) := f3.keep.tup _ _ (f2.keep.tup _ _ hc)
    refine q ((kk, c, w2) :: es) H3 Z3 Fs3 rel3 (f1.trans (f2.trans f3)) ⟨?_, fun e he => ?_, .cons0 r3 kr.rs⟩
    · show encT kk :: rest.map (·.1) = _
      rw [kr.ks]
      rfl
    · rcases List.mem_cons.mp he with rfl | he
      · exact hc3
      · exact kr.tr e he
  · cases hf
theorem DRel.mergeT {K : PySem.W.Frag} {Z : Addr → Prop} {H : Hp} : ∀ {es : List KE3} {more : List (D × D)} {kvs : List (D × D)} {ws : List (List Key × V)}, (more.map (·.1) = es.map fun e => encT e.1) → Rs K Z H (more.map (·.2)) (es.map fun e => e.2.2) [] → DRel K Z H encT kvs ws [] → DRel K Z H encT (more.foldl (fun acc kv => putD acc kv.1 kv.2) kvs) (Vl.mergeT ws es) []
  | [], [], kvs, ws, _, _, r0 => r0
  | [], _ :: _, _, _, h, _, _ => by cases h
  | _ :: _, [], _, _, h, _, _ => by cases h
  | e :: es, p :: more, kvs, ws, h, r, r0 => by
    rw [List.map_cons, List.map_cons] at h
    obtain ⟨h1, h2⟩ := List.cons.inj h
    obtain ⟨v, us, F1, F2, e1, e2, r1, r2⟩ := Rs.uncons r
    obtain ⟨e3, e4⟩ := app_eq_nil e2.symm
    subst e3 e4
    obtain ⟨rfl, rfl⟩ := List.cons.inj e1
    have e : DRel K Z H encT (putD kvs p.1 p.2) (putK ws e.1 e.2.2) [] := by
      rw [h1]
      exact r0.put kEq_encT r1
    have ih := DRel.mergeT h2 r2 e
    exact ih
theorem fPairsT_len : ∀ (ps : List (M D × M D)) (ρ : Env) (kvs : List (D × D)) (ρ' : Env), fPairsT ps ρ = some (kvs, ρ') → kvs.length = ps.length
  | [], ρ, kvs, ρ', h => by cases h; rfl
  | (fk, fv) :: ps, ρ, kvs, ρ', h => by
    unfold fPairsT at h
    obtain ⟨⟨dk, ρ1⟩, e1, h⟩ := Option.bind_eq_some_iff.mp h
    obtain ⟨⟨dv, ρ2⟩, e2, h⟩ := Option.bind_eq_some_iff.mp h
    obtain ⟨⟨rest, ρ3⟩, e3, h⟩ := Option.bind_eq_some_iff.mp h
    split at h
    · cases h
      rw [List.length_cons, fPairsT_len ps _ _ _ e3, List.length_cons]
    · cases h
theorem pev_dispT {keys : List (Option Expr)} {values : List Expr} (hu : X.A.units + 1 < cLine) (h : PPVT X pos T1 keys values ps) (hall : keys.all (·.isSome) = true := by rfl) (hl : keys.length = values.length := by rfl) (h0 : keys ≠ [] := by simp) (h15 : keys.length ≤ 15 := by decide) (hps : ps.length ≤ 15 := by decide) :
    PEV X T1 [] true (.Dict keys values pos) (fDispT ps) := by
  obtain ⟨trs, h1, h2⟩ := h.ok
  refine PE.imp (pe_dispT hu h1 hall hl h0 h15) fun σ H Q h => ?_
  obtain ⟨Z, ρ, Fs, d, ρ', rel, hf, q⟩ := h
  unfold fDispT at hf
  obtain ⟨⟨kvs, ρ1⟩, e1, hf⟩ := Option.bind_eq_some_iff.mp hf
  cases hf
  intro p hp
  have k0 : Keep M0 H (upd H p (.dT [])) := Keep.new hp
  have rel0 := rel.keep0 k0
  refine h2 _ σ Z ρ Fs _ kvs _ rel0 e1 fun es H' Z' Fs' rel' f' kr => ?_
  have np : ∀ j, p ∉ Fs j := fun j h => rel.ft j p h hp
  have hpp : H' p = some (.dT []) := f'.keep.out p _ upd_same fun ⟨j, _, h⟩ => np j h
  have hlen : es.length ≤ 15 := by
    have e := congrArg List.length kr.ks
    rw [List.length_map, List.length_map] at e
    rw [← e, fPairsT_len ps _ _ _ e1]
    exact hps
  refine ⟨hpp, es, rfl, kr.tr, hlen, ?_⟩
  have nz : ¬ Z' p := fun z => by
    rcases f'.c3 p z with z | ⟨j, _, z⟩ | z
    · exact rel.zt p z hp
    · exact np j z
    · rw [upd_same] at z; cases z
  have nF : ∀ j, p ∉ Fs' j := fun j h => by
    by_cases hj : j ∈ T1
    · rcases f'.c1 j hj p h with ⟨m, _, z⟩ | z
      · exact np m z
      · rw [upd_same] at z; cases z
    · rw [(f'.sub j hj).1] at h; exact np j h
  have kw : Keep (fun a => a = p) H' (upd H' p (.dT (mergeT [] es))) := Keep.wr hpp trivial
  have rel2 : Rel X.K Z' ρ1 σ (upd H' p (.dT (mergeT [] es))) Fs' := ⟨fun i d e => let ⟨v, h1, h2⟩ := rel'.at_ i d e; ⟨v, h1, h2.keep kw (fun _ h => h) (fun a z e => nz (by rw [← e]; exact z)) fun a ha e => nF i (by rw [← e]; exact ha)⟩,
    rel'.nd, rel'.dj, rel'.nz, fun a h => kw.dom a (rel'.zt a h), fun i a h => kw.dom a (rel'.ft i a h), rel'.len⟩
  have dr2 := DRel.mergeT kr.ks kr.rs (⟨rfl, .nil⟩ : DRel X.K Z' H' encT [] [] [])
  have fK : Keep (fun a => ∃ j ∈ T1, a ∈ Fs j) H (upd H' p (.dT (mergeT [] es))) := (k0.trans f'.keep (M := fun a => ∃ j ∈ T1, a ∈ Fs j) (fun _ h => h.elim) fun a h => .inl h).trans kw (fun _ h => h) fun a e => .inr (by rw [e]; exact hp)
  have nn : ∀ {a : Addr}, upd H p (.dT []) a = none → H a = none := fun {a} h => by
    by_cases e : a = p
    · rw [e]; exact hp
    · rwa [upd_ne e] at h
  exact q (.ref p) _ Z' Fs' [p] rel2 ⟨f'.sub, fK, fun j hj a ha => (f'.c1 j hj a ha).imp id nn, fun a h => (f'.c3 a h).imp id fun h => h.imp id nn, f'.zz, f'.len⟩
    ⟨DRel.atT upd_same ⟨dr2.ks, dr2.rs.keep kw (fun _ h => h) (fun a z e => nz (by rw [← e]; exact z)) fun _ h => (by cases h)⟩, fun j a h1 h2 => absurd h2 (by rw [List.mem_singleton.mp h1]; exact nF j), fun _ => ⟨by simp, fun a ha => by rw [List.mem_singleton.mp ha]; exact nz⟩⟩
    fun _ a ha => .inr (by rw [List.mem_singleton.mp ha]; exact hp)
end
end Vl

namespace Vl
open PySem PySem.W PySem.Calls PyProof.Rows PyProof.V PySem.Spec L2
/-! ### d.pop(k): a key that is there, a tuple -/
section
variable {prog : Program} {w : World} {Kk : Type} [DecidableEq Kk] {knd : HeapKind prog w Kk}
theorem pop_there {d b : Addr} {k : Kk} : MeetsIn prog w (Builtin.«dict.pop» ⟨[.ref d, .ref b], []⟩) (fun A R s => ∃ xs p, knd.room A.in1 ∧ knd.is s.heap k b ∧ s.heap.DictOfH knd d xs ∧ xs.length ≤ sizeLine ∧ atKey xs k = some p ∧
    ∀ h' tk, h'.DictOfH knd d (DT.dropH xs k) → Heap.SameBut d s.heap h' → R (.ok (.ret p.2)) { s with heap := h', toks := tk }) := by
  refine .of_wp fun A R s hyp => ?_
  obtain ⟨xs, p, hu, hkey, hm, hsz, hp, fin⟩ := hyp
  obtain ⟨o, es, ep, ho, hc, hdat, he, his, hn⟩ := id hm
  have ne : es.isEmpty = false := by
    cases c : es.isEmpty with
    | false => rfl
    | true =>
      have z : es.size = 0 := by simpa using c
      have := size_of_entries he
      have x0 : xs = [] := List.length_eq_zero_iff.mp (by omega)
      rw [x0] at hp
      cases hp
  unfold Builtin.«dict.pop»
  refine wpAny_bind ?_
  unfold Builtin.Dict.keyAndDefault
  refine wpAny_bind (wpAny_notOrdered_dict hm.typeIs ?_)
  show wpAny _ _ (pure (d, Value.ref b, none)) _ _ s
  refine wpAny_pure ?_
  simp only [show (keyPart (Value.ref b)).isSome = false from rfl, Bool.false_eq_true, if_false]
  refine wpAny_bind (wpAny_dictEntries ho hdat (wpAny_bind (wpAny_pure ?_)))
  rw [ne]
  simp only [Bool.false_eq_true, if_false]
  refine wpAny_bind (DT.takeH hu hkey hm hsz (fun hno => ?_) fun p' e hp' hev h' hm' hs' => ?_)
  · rw [hp] at hno
    cases hno
  · rw [hp] at hp'
    cases hp'
    simp only [Option.isNone_some, Bool.false_eq_true, if_false]
    refine wpAny_bind (wpAny_letGo (wpAny_pure ⟨e.val, rfl, ?_⟩))
    rw [hev]
    exact fin h' _ hm' hs'
end
def tDPopT (td ty : TE) : TE := fun σ H Q => td σ H fun x H1 => ∃ a, x = .ref a ∧ IsD H1 a ∧ ty σ H1 fun y H2 => ∃ kvs k b v, H2 a = some (.dT kvs) ∧ y = .ref b ∧ H2 b = some (.tup (k.map kV)) ∧ valV kvs k = some v ∧ Q v (upd H2 a (.dT (dropK kvs k)))
theorem pe_dpopT {X : Cx} {o e : Expr} {td ty : TE} {apos cpos : Pos} (hu : X.A.units + 1 < cLine) (ho : PE X o td) (he : PE X e ty) (m : M1 X o "pop" apos e cpos) : PE X (.Call (.Attribute o "pop" apos) [e] [] cpos) (tDPopT td ty) := by
  refine ⟨fun pins s σ H Q I h => ?_⟩
  refine wpAny_Call_method m.base m.few m.line PySem.F.plainAttrs_dict PySem.F.slot_dict_pop PySem.F.type_dict_pop (thn (ho.run pins s σ H _ I h) fun u s1 got => ?_)
  obtain ⟨x, H1, I1, rx, a, rfl, d, q1⟩ := got
  obtain rfl : u = Value.ref a := rx
  obtain ⟨t1, t2, _⟩ := isD_at I1 d
  refine ⟨t1, t2, ?_⟩
  rw [m.trees]
  refine Calls.callWith_builtin rfl (Calls.evalArgs_plain (Calls.spliced_cons (thn (he.run pins s1 σ H1 _ I1 q1) fun iv s2 got2 => Calls.spliced_nil ?_)))
  obtain ⟨y, H2, I2, ry, kvs, k, b, v, ea, rfl, eb, l, q2⟩ := got2
  obtain rfl : iv = Value.ref b := ry
  obtain ⟨z, hd, xs, rel, dd⟩ := dt_of I2.hok ea
  obtain ⟨w', hw, rw'⟩ := RelO.some_of (v := v) (o := (atKey xs k).map (·.2)) (by rw [← l]; exact rel.val k)
  obtain ⟨p, hp, rfl⟩ := Option.map_eq_some_iff.mp hw
  refine call_meetsIn PySem.F.slot_dict_pop dd.typeIs PySem.F.entry_dict_pop (PySem.F.args_dict_pop_2 _ _) (pop_there (knd := tupleKind (mixKind X.prog X.w)) (k := k)) ⟨xs, p, tupleKind_room_in1 hu, key_of I2.hok eb, dd, by rw [← Paired.length rel]; exact z, hp, fun h' tk dd' hs => ?_⟩
  obtain ⟨ob, es, ep, hq, h2, h3, h4, _, h5⟩ := dd'
  have new : ObjOk X.prog X.w (upd H2 a (.dT (dropK kvs k))) h' a (.dT (dropK kvs k)) := ⟨Nat.le_trans (dropK_le kvs k) z, hd, _, (L2.DX.KT_drop k rel).keeps fun c ys ec => by
    rw [upd_ne (fun z => by subst z; rw [ea] at ec; cases ec)]
    exact ec, ob, es, ep, hq, h2, h3, h4, h5⟩
  exact ⟨v, _, d_write I2 (by rw [ea]; exact True.intro) hs ⟨ob, hq⟩ new, rw', q2⟩
def gDpopT (d0 k : D) : Option (D × D) := match d0 with
  | .dct true true kvs => (keyT k).bind fun _ => if D.noOwnP kvs = true then (lookD kvs k).map fun d => (d, .dct true true (delD kvs k)) else none
  | _ => none
def fDpopT (i : Nat) (fk : M D) : M D := fun ρ => (Env.at ρ i).bind fun o => match o with
  | .dct _ true _ => (fk ρ).bind fun p => (Env.at p.2 i).bind fun o' => (gDpopT o' p.1).bind fun q => some (q.1, p.2.set i (some q.2))
  | _ => none
section
variable {X : Cx} {T O : List Nat} {x : Bool} {e : Expr} {fk : M D} {y : Str} {npos apos cpos : Pos}
theorem pev_dpopT (i : Nat) (hu : X.A.units + 1 < cLine) (hk : PEV X T O x e fk)
    (hN : X.N[i]? = some y := by rfl) (hv : Vis X.env.scope y := by first | exact Or.inl rfl | exact Or.inr (Or.inl rfl) | exact Or.inr (Or.inr rfl)) (hd : (y == ("__debug__" : Str)) = false := by decide) (hcd : (y == ("__classdict__" : Str)) = false := by decide)
    (m : M1 X (.Name y npos) "pop" apos e cpos := by exact ⟨rfl, rfl, rfl, rfl⟩) : PEV X (T ++ [i]) [] true (.Call (.Attribute (.Name y npos) "pop" apos) [e] [] cpos) (fDpopT i fk) := by
  refine PE.imp (pe_dpopT hu (pe_var hN hv hd hcd) hk m) fun σ H Q h => ?_
  obtain ⟨Z, ρ, Fs, d, ρ', rel, hf, q⟩ := h
  unfold fDpopT at hf
  obtain ⟨o, h0, hf⟩ := Option.bind_eq_some_iff.mp hf
  split at hf
  · obtain ⟨⟨dk, ρ1⟩, h1, hf⟩ := Option.bind_eq_some_iff.mp hf
    obtain ⟨o', h2, hf⟩ := Option.bind_eq_some_iff.mp hf
    obtain ⟨⟨d1, d'⟩, h3, hf⟩ := Option.bind_eq_some_iff.mp hf
    cases hf
    obtain ⟨v0, hv0, r0⟩ := rel.at_ i _ (Env.at_some h0)
    obtain ⟨a, ws0, G0, rfl, hr0, _, _⟩ := r0.dctT_rd
    refine ⟨.ref a, hv0, a, rfl, .inr ⟨ws0, hr0⟩, Z, ρ, Fs, dk, ρ1, rel, h1, fun vk H1 Z1 Fs1 F1 rel1 f1 w1 c1 => ?_⟩
    have hio := Env.at_some h2
    obtain ⟨v1, hv1, r1⟩ := rel1.at_ i o' hio
    rw [hv0] at hv1
    cases hv1
    unfold gDpopT at h3
    split at h3
    · rename_i kvs
      obtain ⟨k, hkk, h3⟩ := Option.bind_eq_some_iff.mp h3
      split at h3
      · rename_i hn
        obtain ⟨dd, hl, h3⟩ := Option.map_eq_some_iff.mp h3
        cases h3
        obtain ⟨c, rfl, hc, rfl⟩ := R.keyT hkk w1.r
        have nz1 := rel1.nz i
        have nd1 := rel1.nd i
        generalize hFi : Fs1 i = Fi at r1 nz1 nd1
        obtain ⟨a', ws, G, e, rfl, ha, dr⟩ := r1.dctT_ow
        cases e
        have e0 : G = [] := dr.rs.no (by rw [← noOwnP_eq]; exact hn)
        subst e0
        obtain ⟨v, G2, z1, z2, z3⟩ := (dr.look kEq_encT k).1 d1 hl
        have e2 := z2.no (lookD_mem hl hn)
        subst e2
        refine ⟨ws, k, c, v, ha, rfl, hc, z1, ?_⟩
        have kp : Keep (fun b => b = a) H1 (upd H1 a (.dT (dropK ws k))) := Keep.wr ha trivial
        have hz : ∀ b, Z1 b → ¬ b = a := fun b z e => nz1 a List.mem_cons_self (by rw [← e]; exact z)
        have dr2 := dr.del kEq_encT (k := k)
        obtain ⟨e1, e2, e3, e4, e5⟩ := mut_end (F := []) (F' := []) (F0' := [a]) rel1 f1 Cf.nil (fun j a h => (by cases h)) (fun a h => (by cases h)) hv0 (Env.lt hio) (kp.mono fun b e => by rw [hFi, e]; exact List.mem_cons_self)
          (DRel.atT upd_same ⟨dr2.ks, dr2.rs.keep kp (fun _ h => h) hz fun b hb => (by cases hb)⟩) (by simp) (fun b hb => .inl (by rw [hFi]; exact hb))
        exact q v _ Z1 _ [] e1 e2 ⟨z2.keep kp (fun _ h => h) hz fun b hb => (by cases hb), fun j a h => (by cases h), fun _ => ⟨List.nodup_nil, fun _ h => (by cases h)⟩⟩ Cf.nil
      · cases h3
    · cases h3
  · cases hf
end
end Vl

namespace Vl
open PySem PySem.W PySem.Calls PyProof.Rows PyProof.V PySem.Spec L2
/-! ### list(d): the keys, tuples -/
def gListT : List D → Option D
  | [.dct _ true kvs] => some (.lst true (kvs.map (·.1)))
  | _ => none
theorem rs_kT {K : PySem.W.Frag} {Z : Addr → Prop} {H : Hp} : ∀ {ws : List (List Key × V)} {bs : List Addr}, IsKeys H ws bs → Rs K Z H (ws.map fun p => encT p.1) (bs.map V.ref) [] := fun {ws bs} h => by
  unfold IsKeys at h
  induction h with
  | nil => exact .nil
  | cons h1 t ih => exact .cons0 (.tup h1 (rs_keyss _)) ih
theorem cs_listT {K : PySem.W.Frag} : ClS K (fun xs H Q => ∃ d kvs, xs = [V.ref d] ∧ Rd H d (.dT kvs) ∧ ∀ p bs, H p = none → IsKeys H kvs bs → Q (.ref p) (upd H p (.lst (bs.map V.ref)))) gListT := fun Z H ds vs F1 d Q rs hg q => by
  unfold gListT at hg
  split at hg
  · cases hg
    obtain ⟨v, rfl, r⟩ := rs.one_inv
    obtain ⟨a, ws, G, rfl, hr, dr, _⟩ := r.dctT_rd
    refine ⟨a, ws, rfl, hr, fun p bs hp hk => ?_⟩
    have k : Keep M0 H (upd H p (.lst (bs.map V.ref))) := Keep.new hp
    have kk : Rs K Z H (List.map (·.1) ‹List (D × D)›) (bs.map V.ref) [] := by
      rw [dr.ks]
      exact rs_kT hk
    exact q _ _ [p] k (.own upd_same (kk.keep0 k)) (by simp) fun b hb => by
      rw [List.mem_singleton.mp hb]
      exact hp
  · cases hg
end Vl

namespace Vl
open PySem PySem.Spec PyProof.Rows L2
/-! ### t.count(i) of an exact tuple of ints -/
def rCnT (K : PySem.W.Frag) : V → List V → Hp → VK → Prop := fun x xs H Q => ∃ (a : Addr) (ys : List Int) (z : Int), x = .ref a ∧ xs = [.int z] ∧ SqT K H a (ys.map V.int) ∧ Q (.int (ys.count z : Nat)) H
theorem countP_eqU {z : Int} : ∀ {ys : List Int} {its : List Value}, Vals (ys.map V.int) its → its.countP (eqU (.int z)) = ys.count z
  | [], _, r => by
    cases r
    rfl
  | y :: ys, _, r => by
    rw [List.map_cons] at r
    cases r with
    | cons r1 r2 =>
      obtain ⟨t, rfl⟩ := r1
      rw [List.countP_cons, List.count_cons, countP_eqU r2]
      show _ + (if (y == z) = true then 1 else 0) = _
      rfl
theorem mt_cnT {X : Cx} : MtR X "tuple.count" (rCnT X.K) := by
  intro pins s σ H x xs v us Q I rx rs h
  obtain ⟨a, ys, z, rfl, rfl, hq, q⟩ := h
  cases rx
  obtain ⟨u, rfl, t, rfl⟩ := vals1 rs
  obtain ⟨its, r, ⟨⟨cls, dd, dt, sl⟩, ho, hc, n, hd⟩, hz⟩ := I.tuple hq
  simp only at hc hd
  subst hc hd
  refine call_meets PySem.F.slot_tuple_count ⟨_, ho, rfl⟩ PySem.F.entry_tuple_count (PySem.F.args_tuple_count_2 _ _) (PySem.SeqAt.tuple_countAt a its.toArray n dd sl (.int z t) (eqU (.int z)))
    ⟨ho, fun w hw => mem_eqAt (x := .int z) ⟨t, rfl⟩ rfl r (flat_ints ys) w (by simpa using hw), ⟨.int (ys.count z : Nat), H, I.tok _, ?_, q⟩⟩
  refine ⟨s.toks, ?_⟩
  show Value.int ((its.countP (eqU (.int z)) : Nat) : Int) _ = _
  rw [countP_eqU r]
def gCnT (d e : D) : Option D := match d, e with
  | .xt l, .int z => (intsD l).bind fun ys => some (.int ((ys.count z : Nat) : Int))
  | _, _ => none
section
variable {X : Cx} {T T1 T2 O O1 O2 : List Nat} {x x1 x2 : Bool} {o e : Expr} {f fa fb : M D} {apos cpos : Pos}
theorem pev_cnT (ho : PEV X T1 O1 x1 o fa) (he : PEV X T2 O2 x2 e fb) (hbase : attributeBase o "count" X.env (eval o X.env) = eval o X.env := by rfl)
    (hfew : ((backTo cpos (starEach (e :: []) X.env)).all (fun x => !x.1) && (backToKw cpos (keywordEach [] X.env)).all (fun x => x.1.isSome)
      && decide ((e :: []).length + ([] : List Keyword).length + (if ([] : List Keyword).isEmpty then 0 else 1) < 30)) = true := by rfl)
    (hline : (apos.endLine == cpos.line) = true := by rfl) (hs : starEach (e :: []) X.env = (false, eval e X.env) :: starEach [] X.env := by rfl) (hplain : (backTo cpos (starEach [] X.env)).any (·.1) = false := by rfl) :
    PEV X (T1 ++ T2) [] true (.Call (.Attribute o "count" apos) [e] [] cpos) (fOp O1 T2 gCnT fa fb) := by
  refine PE.imp (pe_mG ty_xt PySem.F.plainAttrs_tuple PySem.F.slot_tuple_count (by rfl) mt_cnT ho (pa_cons he pa_nil hs) hbase hfew hline hs hplain) fun σ H Q h => ?_
  obtain ⟨Z, ρ, Fs, d, ρ', rel, hf, q⟩ := h
  unfold fOp at hf
  obtain ⟨⟨d1, ρ1⟩, h1, hf⟩ := Option.bind_eq_some_iff.mp hf
  obtain ⟨⟨d2, ρ2⟩, h2, hf⟩ := Option.bind_eq_some_iff.mp hf
  split at hf
  · rename_i hsf
    obtain ⟨d', h3, hf⟩ := Option.bind_eq_some_iff.mp hf
    cases hf
    simp only [gCnT] at h3
    split at h3
    · rename_i l z _ _
      obtain ⟨ys, hi, h3⟩ := Option.bind_eq_some_iff.mp h3
      cases h3
      refine ⟨Z, ρ, Fs, .xt l, ρ1, rel, h1, fun v1 H1 Z1 Fs1 F1 rel1 f1 w1 c1 => ⟨?_, Z1, ρ1, Fs1, .int z, _, rel1, h2, fun v2 H2 Z2 Fs2 F2 rel2 f2 w2 c2 => ?_⟩⟩
      · cases w1.r with
        | xt a1 a2 a3 a4 => exact ⟨_, _, _, rfl, a1, a2, a3⟩
      · have w1' := (w1.keep rel1 f2 hsf).r
        obtain rfl := w2.r.int_inv
        cases w1' with
        | xt a1 a2 a3 a4 =>
          have e := a4.intsD hi
          subst e
          exact ⟨_, ys, z, rfl, rfl, .inl (.inr ⟨_, a1⟩), q _ H2 Z2 Fs2 [] rel2 (f1.trans f2) ⟨.int _, fun _ _ h => (by cases h), fun _ => ⟨List.nodup_nil, fun _ h => (by cases h)⟩⟩ Cf.nil⟩
    · cases h3
  · cases hf
end
end Vl

/-! Sets of hashed things of more than 63 members: tables whose mask is any power of two less one. -/
namespace Vs
open PySem PyProof.Rows L2
/-! ### the round of i -> 5 i + 1 modulo a power of two -/
theorem five_pow : ∀ k : Nat, ∃ d : Int, d % 2 = 1 ∧ (5 : Int) ^ (2 ^ k) = 1 + 2 ^ (k + 2) * d
  | 0 => ⟨1, rfl, rfl⟩
  | k + 1 => by
    obtain ⟨d, hd, e⟩ := five_pow k
    refine ⟨d + 2 ^ (k + 1) * (d * d), ?_, ?_⟩
    · have : (2 : Int) ^ (k + 1) * (d * d) = 2 * (2 ^ k * (d * d)) := by rw [Int.pow_succ]; grind
      omega
    · have e2 : (5 : Int) ^ 2 ^ (k + 1) = 5 ^ 2 ^ k * 5 ^ 2 ^ k := by rw [Nat.pow_succ, Nat.mul_two, Int.pow_add]
      have e3 : (2 : Int) ^ (k + 1 + 2) = 8 * 2 ^ k := by rw [Int.pow_add, Int.pow_add]; grind
      have e4 : (2 : Int) ^ (k + 2) = 4 * 2 ^ k := by rw [Int.pow_add]; grind
      have e5 : (2 : Int) ^ (k + 1) = 2 * 2 ^ k := by rw [Int.pow_add]; grind
      rw [e2, e, e3, e4, e5]
      grind
theorem five_all (A B : Int) (ha : A % 4 = 1) (hb : B % 4 = 1) : ∀ k : Nat, ∃ n : Nat, n < 2 ^ k ∧ ∃ c : Int, (5 : Int) ^ n * A = B + 2 ^ (k + 2) * c
  | 0 => ⟨0, by decide, (A - B) / 4, by
    rw [Int.pow_zero]
    have e : (2 : Int) ^ (0 + 2) = 4 := by decide
    rw [e]
    omega⟩
  | k + 1 => by
    obtain ⟨n, hn, c, e⟩ := five_all A B ha hb k
    have e1 : (2 : Int) ^ (k + 1 + 2) = 2 ^ (k + 2) * 2 := by rw [Int.pow_succ, Int.pow_succ 2 (k + 1)]
    have hn2 : 2 ^ (k + 1) = 2 ^ k + 2 ^ k := by rw [Nat.pow_succ, Nat.mul_two]
    rcases (show c % 2 = 0 ∨ c % 2 = 1 by omega) with hc | hc
    · refine ⟨n, by omega, c / 2, ?_⟩
      have e2 : c = 2 * (c / 2) := by omega
      rw [e1, Int.mul_assoc, ← e2]
      exact e
    · obtain ⟨d, hd, f⟩ := five_pow k
      have p2 : (2 : Int) ^ (k + 2) = 4 * 2 ^ k := by rw [Int.pow_add]; grind
      have par : (c + d * B + 2 ^ (k + 2) * (d * c)) % 2 = 0 := by
        obtain ⟨x, hx⟩ : ∃ x, d = 2 * x + 1 := ⟨d / 2, by omega⟩
        obtain ⟨y, hy⟩ : ∃ y, B = 2 * y + 1 := ⟨B / 2, by omega⟩
        have q1 : d * B = 2 * (2 * (x * y) + x + y) + 1 := by subst hx; subst hy; grind
        have q2 : (2 : Int) ^ (k + 2) * (d * c) = 2 * (2 * 2 ^ k * (d * c)) := by rw [p2]; grind
        omega
      refine ⟨2 ^ k + n, by omega, (c + d * B + 2 ^ (k + 2) * (d * c)) / 2, ?_⟩
      have e2 : c + d * B + 2 ^ (k + 2) * (d * c) = 2 * ((c + d * B + 2 ^ (k + 2) * (d * c)) / 2) := by omega
      rw [e1, Int.mul_assoc, ← e2, Int.pow_add, Int.mul_assoc, e, f]
      grind
/-- without the modulus -/
def far (i : Nat) : Nat → Nat
  | 0 => i
  | n + 1 => far i n * 5 + 1
theorem far_mod (m i : Nat) (hi : i ≤ m) : ∀ n, lcgI m i n = far i n % (m + 1)
  | 0 => (Nat.mod_eq_of_lt (Nat.lt_succ_of_le hi)).symm
  | n + 1 => by
    show (lcgI m i n * 5 + 1) % (m + 1) = (far i n * 5 + 1) % (m + 1)
    rw [far_mod m i hi n, Nat.add_mod, Nat.mul_mod, Nat.mod_mod, ← Nat.mul_mod, ← Nat.add_mod]
theorem far_five (i : Nat) : ∀ n, 4 * (far i n : Int) + 1 = 5 ^ n * (4 * (i : Int) + 1)
  | 0 => by rw [Int.pow_zero, Int.one_mul]; rfl
  | n + 1 => by
    have e := far_five i n
    have e2 : ((far i (n + 1) : Nat) : Int) = (far i n : Int) * 5 + 1 := by
      show ((far i n * 5 + 1 : Nat) : Int) = _
      omega
    rw [Int.pow_succ, e2, Int.mul_assoc, Int.mul_comm 5, ← Int.mul_assoc, ← e]
    omega
/-- a mask -/
def Pw (m : Nat) : Prop := ∃ k, 1 ≤ k ∧ m + 1 = 2 ^ k
theorem Pw.odd {m : Nat} (h : Pw m) : m % 2 = 1 := by
  obtain ⟨k, hk, e⟩ := h
  obtain ⟨j, rfl⟩ : ∃ j, k = j + 1 := ⟨k - 1, by omega⟩
  rw [Nat.pow_succ] at e
  omega
theorem Pw.all {m : Nat} (h : Pw m) {i j : Nat} (hi : i ≤ m) (hj : j ≤ m) : ∃ n, n ≤ m ∧ lcgI m i n = j := by
  obtain ⟨k, hk, e⟩ := h
  obtain ⟨n, hn, c, q⟩ := five_all (4 * (i : Int) + 1) (4 * (j : Int) + 1) (by omega) (by omega) k
  refine ⟨n, by omega, ?_⟩
  rw [far_mod m i hi, ← far_five] at *
  have e4 : (2 : Int) ^ (k + 2) = 4 * ((m + 1 : Nat) : Int) := by
    rw [Int.pow_add, e, Int.natCast_pow]
    grind
  rw [e4] at q
  have q2 : (far i n : Int) = j + ((m + 1 : Nat) : Int) * c := by grind
  have q3 : (far i n : Int) % ((m + 1 : Nat) : Int) = j := by
    rw [q2, Int.add_mul_emod_self_left]
    exact Int.emod_eq_of_lt (by omega) (by omega)
  have q4 := Int.natCast_emod (far i n) (m + 1)
  omega
/-- each slot begins a run early enough -/
theorem Pw.run {m : Nat} (h : Pw m) (x : Int) {j : Nat} (hj : j ≤ m) : ∃ n, n ≤ m + 12 ∧ runI m (SetTable.bits x) n = j := by
  obtain ⟨n, hn, e⟩ := h.all (runI_le m (SetTable.bits x) 12) hj
  refine ⟨12 + n, by omega, ?_⟩
  rw [runI_tail (bits_lt x)]
  exact e
theorem Pw.way {m : Nat} (h : Pw m) (x : Int) {j : Nat} (hj : j ≤ m) : ∃ k, k < 10 * SetTable.turns m ∧ way m x k = j := by
  obtain ⟨n, hn, e⟩ := h.run x hj
  obtain ⟨k, hk, e2⟩ := run_nth m (SetTable.bits x) n
  have ht : SetTable.turns m = m + 15 := rfl
  refine ⟨k, by omega, ?_⟩
  show (nth m (runAt m (SetTable.bits x % (m + 1)) (SetTable.bits x)) k).j = j
  rw [e2]
  exact e
theorem way_in (m : Nat) (x : Int) (k : Nat) : way m x k ≤ m := by
  have r := runEnd_bd (m := m) (i := SetTable.bits x % (m + 1)) (Nat.le_of_lt_succ (Nat.mod_lt _ (Nat.succ_pos m)))
  have q : (runAt m (SetTable.bits x % (m + 1)) (SetTable.bits x)).j + (runAt m (SetTable.bits x % (m + 1)) (SetTable.bits x)).more ≤ m := by
    show SetTable.bits x % (m + 1) + (SetTable.runEnd m (SetTable.bits x % (m + 1)) - SetTable.bits x % (m + 1)) ≤ m
    omega
  exact Nat.le_trans (Nat.le_add_right _ _) (nth_in k _ q)
/-! ### the sizes that come -/
theorem size_go : ∀ (f n k : Nat), n < 2 ^ (k + f) → (2 ^ k ≤ 2 * n ∨ k = 3) → ∃ j, k ≤ j ∧ SetTable.sizeAbove.go n f (2 ^ k) = 2 ^ j ∧ n < 2 ^ j ∧ (2 ^ j ≤ 2 * n ∨ j = 3)
  | 0, n, k, h, h2 => ⟨k, Nat.le_refl _, rfl, h, h2⟩
  | f + 1, n, k, h, h2 => by
    show ∃ j, k ≤ j ∧ (if 2 ^ k ≤ n then SetTable.sizeAbove.go n f (2 ^ k * 2) else 2 ^ k) = 2 ^ j ∧ n < 2 ^ j ∧ (2 ^ j ≤ 2 * n ∨ j = 3)
    by_cases c : 2 ^ k ≤ n
    · rw [if_pos c, ← Nat.pow_succ]
      obtain ⟨j, h1, h3⟩ := size_go f n (k + 1) (by rw [show k + 1 + f = k + (f + 1) by omega]; exact h) (.inl (by rw [Nat.pow_succ]; omega))
      exact ⟨j, by omega, h3⟩
    · rw [if_neg c]
      exact ⟨k, Nat.le_refl _, rfl, Nat.lt_of_not_le c, h2⟩
/-- after laying anew for n members: the mask -/
theorem size_ok {n : Nat} (h0 : 1 ≤ n) (h1 : n ≤ 1000) : ∃ M, SetTable.sizeAbove (SetTable.grown n) = M + 1 ∧ Pw M ∧ 4 * n ≤ M ∧ M ≤ 8191 := by
  have g : SetTable.grown n = n * 4 := if_neg (by omega)
  obtain ⟨j, j1, j2, j3, j4⟩ := size_go 64 (n * 4) 3 (Nat.lt_of_lt_of_le (show n * 4 < 2 ^ 12 by omega) (Nat.pow_le_pow_right (by decide) (by decide))) (.inr rfl)
  have j5 : 2 ^ j ≤ 8192 := by
    rcases j4 with q | q
    · omega
    · subst q
      decide
  refine ⟨2 ^ j - 1, ?_, ⟨j, by omega, by omega⟩, by omega, by omega⟩
  rw [g]
  show SetTable.sizeAbove.go (n * 4) 64 (2 ^ 3) = _
  rw [j2]
  omega
end Vs

/-! A table from whose hashes every member's slot is found again. -/
namespace Vs
open PySem PyProof.Rows L2
def Hit (m : Nat) (busy : Nat → Prop) (x : Int) (j : Nat) : Prop := ∃ k, way m x k = j ∧ ∀ c, c < k → busy (way m x c)
theorem Hit.mono {m : Nat} {b b' : Nat → Prop} {x : Int} {j : Nat} (h : Hit m b x j) (u : ∀ i, b i → b' i) : Hit m b' x j := by
  obtain ⟨k, e, f⟩ := h
  exact ⟨k, e, fun c hc => u _ (f c hc)⟩
structure Tab (t : SetTable) (hs : List Int) : Prop where
  up : Ris t.place.toList
  nod : t.dummies = #[]
  len : t.place.toList.length = hs.length
  pw : Pw t.mask
  le : ∀ j ∈ t.place.toList, j ≤ t.mask
  hit : ∀ (i : Nat) (x : Int) (j : Nat), hs[i]? = some x → t.place.toList[i]? = some j → Hit t.mask (· ∈ t.place.toList) x j
/-- a way's first free slot -/
theorem free_way {m : Nat} (hm : Pw m) (busy : Nat → Prop) (ps : List Nat) (hp : ps.length ≤ m) (hb : ∀ j, j ≤ m → busy j → j ∈ ps) (x : Int) :
    ∃ K, K < 10 * SetTable.turns m ∧ ¬ busy (way m x K) ∧ ∀ c, c < K → busy (way m x c) := by
  obtain ⟨j, hj, hn⟩ := st_missing ps (m + 1) (by omega)
  obtain ⟨k, hk, e⟩ := hm.way x (Nat.le_of_lt_succ hj)
  obtain ⟨K, k1, k2, k3⟩ := st_least (p := fun k => ¬ busy (way m x k)) k (by
    show ¬ busy (way m x k)
    rw [e]
    exact fun z => hn (hb j (Nat.le_of_lt_succ hj) z))
  exact ⟨K, by omega, k2, fun c hc => Classical.not_not.mp (k3 c hc)⟩
theorem Tab.free {t : SetTable} {hs : List Int} (T : Tab t hs) (h : hs.length ≤ t.mask) (x : Int) : ∃ K, K < 10 * SetTable.turns t.mask ∧ way t.mask x K ∉ t.place.toList ∧ ∀ c, c < K → way t.mask x c ∈ t.place.toList :=
  free_way T.pw (· ∈ t.place.toList) t.place.toList (by rw [T.len]; exact h) (fun _ _ z => z) x
/-- who has the hash sits on the way before the first free slot -/
theorem Tab.ahead {t : SetTable} {hs : List Int} (T : Tab t hs) {x : Int} {K i j : Nat} (hK : way t.mask x K ∉ t.place.toList) (hx : hs[i]? = some x) (hj : t.place.toList[i]? = some j) : ∃ c, c < K ∧ way t.mask x c = j := by
  obtain ⟨c, e, f⟩ := T.hit i x j hx hj
  refine ⟨c, Nat.lt_of_not_le fun z => ?_, e⟩
  rcases Nat.lt_or_eq_of_le z with y | y
  · exact hK (f K y)
  · subst y
    rw [e] at hK
    exact hK (List.mem_of_getElem? hj)
/-- one is put in -/
theorem Tab.put {t : SetTable} {hs : List Int} (T : Tab t hs) {x : Int} {K p : Nat} (hp : SetTable.below t.place (way t.mask x K) = p) (hK : way t.mask x K ∉ t.place.toList) (hb : ∀ c, c < K → way t.mask x c ∈ t.place.toList) :
    p ≤ hs.length ∧ Tab (t.put (way t.mask x K)).1 (hs.take p ++ x :: hs.drop p) ∧ (t.put (way t.mask x K)).1.fill = hs.length + 1 := by
  obtain ⟨j, hj⟩ : ∃ j, way t.mask x K = j := ⟨_, rfl⟩
  have jm : j ≤ t.mask := by rw [← hj]; exact way_in _ _ _
  rw [hj] at hp hK ⊢
  have c1 := (below_cut T.up j).1
  rw [hp, ← Array.length_toList] at c1
  have ph : p ≤ hs.length := by rw [← T.len]; exact c1
  have pl := put_place t j
  rw [hp] at pl
  have ln : (t.put j).1.place.toList.length = hs.length + 1 := by rw [pl, len_ins _ c1, T.len]
  have inn : ∀ i, i ∈ t.place.toList → i ∈ (t.put j).1.place.toList := fun i z => by
    rw [pl]
    exact mem_ins.mpr (.inr z)
  have fresh : t.place[SetTable.below t.place j]? ≠ some j := fun z => hK (List.mem_of_getElem? (by rw [Array.getElem?_toList]; exact z))
  refine ⟨ph, ⟨ris_insert T.up fresh, put_dm T.nod j, by rw [ln, len_ins _ ph], T.pw, fun i z => ?_, fun i y q h1 h2 => ?_⟩, ?_⟩
  · rw [pl] at z
    rcases mem_ins.mp z with z | z
    · subst z
      exact jm
    · exact T.le i z
  · show Hit t.mask (· ∈ (t.put j).1.place.toList) y q
    rw [pl, tins_get _ c1] at h2
    rw [tins_get _ ph] at h1
    rcases Nat.lt_trichotomy i p with z | z | z
    · rw [if_pos z] at h1 h2
      exact (T.hit i y q h1 h2).mono inn
    · rw [if_neg (by omega), if_pos z] at h1 h2
      cases h1
      cases h2
      exact ⟨K, hj, fun c hc => inn _ (hb c hc)⟩
    · rw [if_neg (by omega), if_neg (by omega)] at h1 h2
      exact (T.hit (i - 1) y q h1 h2).mono inn
  · show (t.put j).1.place.size + (t.put j).1.dummies.size = _
    rw [put_dm T.nod j, ← Array.length_toList, ln]
    rfl
/-! ### laid anew -/
/-- the model's finder of a free slot walks the way -/
theorem finder {m : Nat} (hm : Pw m) (ow : Array (Option Nat)) (x : Int) {j : Nat} (hj : j ≤ m) (hf : oAt ow j = none) :
    ∃ K, SetTable.layClean.free m ow (SetTable.turns m) (SetTable.bits x % (m + 1)) (SetTable.bits x) = some (way m x K) ∧ oAt ow (way m x K) = none ∧ ∀ c, c < K → oAt ow (way m x c) ≠ none := by
  obtain ⟨n, hn, e⟩ := hm.run x hj
  obtain ⟨o, ho⟩ : ∃ o, off m (SetTable.bits x % (m + 1)) (SetTable.bits x) n = o := ⟨_, rfl⟩
  have e2 : way m x o = j := by
    show (nth m (runAt m (SetTable.bits x % (m + 1)) (SetTable.bits x)) o).j = j
    rw [← ho, nth_off, itL_run]
    exact e
  obtain ⟨K, k1, k2, k3⟩ := st_least (p := fun k => oAt ow (way m x k) = none) o (by
    show oAt ow (way m x o) = none
    rw [e2]
    exact hf)
  have ht : SetTable.turns m = m + 15 := rfl
  refine ⟨K, free_spec m ow (SetTable.turns m) n _ _ K (by omega) (by rw [ho]; exact k1) (fun c hc => ?_) ?_, k2, k3⟩
  · have q : oAt ow (way m x c) ≠ none := k3 c hc
    show (oAt ow (way m x c)).isNone = false
    cases z : oAt ow (way m x c) with
    | none => exact absurd z q
    | some _ => rfl
  · show (oAt ow (way m x K)).isNone = true
    rw [show oAt ow (way m x K) = none from k2]
    rfl
/-- who sits where, when the hashes xs are laid -/
structure Seats (m : Nat) (xs : List Int) (ow : Array (Option Nat)) : Prop where
  sz : ow.size = m + 1
  who : ∀ j k, j ≤ m → oAt ow j = some k → ∃ x, xs[k]? = some x ∧ Hit m (fun i => oAt ow i ≠ none) x j
  has : ∀ k, k < xs.length → ∃ j, j ≤ m ∧ oAt ow j = some k
  few : ∃ ps : List Nat, ps.length = xs.length ∧ ∀ j, j ≤ m → oAt ow j ≠ none → j ∈ ps
theorem Seats.start (m : Nat) : Seats m [] (Array.replicate (m + 1) none) :=
  ⟨by simp, fun j k hj e => (by rw [oAt_init hj] at e; cases e), fun k hk => absurd hk (Nat.not_lt_zero _), ⟨[], rfl, fun j hj e => absurd (oAt_init hj) e⟩⟩
theorem Seats.more {m : Nat} (hm : Pw m) {xs : List Int} {ow : Array (Option Nat)} (S : Seats m xs ow) (hl : xs.length ≤ m) (x : Int) :
    ∃ j, SetTable.layClean.free m ow (SetTable.turns m) (SetTable.bits x % (m + 1)) (SetTable.bits x) = some j ∧ Seats m (xs ++ [x]) (ow.setIfInBounds j (some xs.length)) := by
  obtain ⟨ps, pl, pin⟩ := S.few
  obtain ⟨j0, h0, n0⟩ := st_missing ps (m + 1) (by omega)
  have f0 : oAt ow j0 = none := Classical.not_not.mp fun z => n0 (pin j0 (Nat.le_of_lt_succ h0) z)
  obtain ⟨K, e, k2, k3⟩ := finder hm ow x (Nat.le_of_lt_succ h0) f0
  obtain ⟨j, hj⟩ : ∃ j, way m x K = j := ⟨_, rfl⟩
  have jm : j ≤ m := by rw [← hj]; exact way_in _ _ _
  rw [hj] at e k2
  have me := oAt_set_self (some xs.length) (show j < ow.size by rw [S.sz]; omega)
  have ne : ∀ {i}, i ≠ j → oAt (ow.setIfInBounds j (some xs.length)) i = oAt ow i := fun h => oAt_set_ne _ h
  have up : ∀ i, oAt ow i ≠ none → oAt (ow.setIfInBounds j (some xs.length)) i ≠ none := fun i z => by
    by_cases c : i = j
    · subst c
      exact absurd k2 z
    · rw [ne c]
      exact z
  refine ⟨j, e, ⟨by rw [Array.size_setIfInBounds, S.sz], fun i k hi z => ?_, fun k hk => ?_, ⟨j :: ps, by simp [pl], fun i hi z => ?_⟩⟩⟩
  · by_cases c : i = j
    · subst c
      rw [me] at z
      cases z
      exact ⟨x, by simp, K, hj, fun c hc => up _ (k3 c hc)⟩
    · rw [ne c] at z
      obtain ⟨y, y1, y2⟩ := S.who i k hi z
      exact ⟨y, by rw [List.getElem?_append_left (List.getElem?_eq_some_iff.mp y1).1]; exact y1, y2.mono up⟩
  · rw [List.length_append, List.length_singleton] at hk
    rcases Nat.lt_or_eq_of_le (Nat.le_of_lt_succ hk) with c | c
    · obtain ⟨i, hi, z⟩ := S.has k c
      refine ⟨i, hi, ?_⟩
      rw [ne fun y => by rw [y, k2] at z; cases z]
      exact z
    · exact ⟨j, jm, by rw [me, c]⟩
  · by_cases c : i = j
    · subst c
      exact List.mem_cons_self
    · rw [ne c] at z
      exact List.mem_cons_of_mem _ (pin i hi z)
theorem seats_fold {m : Nat} (hm : Pw m) : ∀ (ys xs : List Int) (ow : Array (Option Nat)), Seats m xs ow → xs.length + ys.length ≤ m →
    ∃ ow', ys.foldl (stepF m) (some (ow, xs.length)) = some (ow', xs.length + ys.length) ∧ Seats m (xs ++ ys) ow'
  | [], xs, ow, S, _ => ⟨ow, rfl, by rw [List.append_nil]; exact S⟩
  | y :: ys, xs, ow, S, hl => by
    rw [List.length_cons] at hl
    obtain ⟨j, e, S1⟩ := S.more hm (by omega) y
    obtain ⟨ow', f, S2⟩ := seats_fold hm ys (xs ++ [y]) _ S1 (by rw [List.length_append, List.length_singleton]; omega)
    rw [List.length_append, List.length_singleton] at f
    refine ⟨ow', ?_, by rw [List.append_assoc] at S2; exact S2⟩
    rw [List.foldl_cons, stepF_some e, f, List.length_cons]
    congr 2
    omega
theorem laid_ok {m : Nat} (hm : Pw m) {hs : Array Int} (hn : hs.size ≤ m) : ∃ ow, SetTable.layClean m hs = some ow ∧ Seats m hs.toList ow := by
  obtain ⟨ow, f, S⟩ := seats_fold hm hs.toList [] _ (Seats.start m) (by show 0 + hs.toList.length ≤ m; rw [Array.length_toList]; omega)
  refine ⟨ow, ?_, S⟩
  rw [layClean_eq, show (some (Array.replicate (m + 1) (none : Option Nat), 0)) = some (Array.replicate (m + 1) none, ([] : List Int).length) from rfl, f]
  rfl
/-- the table laid anew -/
theorem relaid_tab (t : SetTable) {hs : Array Int} {wanted M : Nat} (hw : SetTable.sizeAbove wanted = M + 1) (hM : Pw M) (hn : hs.size ≤ M) :
    ∃ (t' : SetTable) (order : Array Nat), t.relaid hs wanted = some (t', order) ∧ order.toList.Perm (List.range hs.size) ∧ Tab t' (order.toList.map fun i => hs.getD i 0) ∧ t'.mask = M ∧ t'.led = t.led ∧ t'.plain = t.plain := by
  obtain ⟨ow, e, S⟩ := laid_ok hM hn
  obtain ⟨L, hL⟩ : ∃ L, liveOf M ow = L := ⟨_, rfl⟩
  have inL : ∀ {j k : Nat}, (j, k) ∈ L ↔ j ≤ M ∧ oAt ow j = some k := by rw [← hL]; exact mem_live S.sz
  have rs : Ris (L.map (·.1)) ∧ ∀ x ∈ L.map (·.1), x ∈ List.range (M + 1) := by
    rw [← hL]
    exact ris_live (fun j => ow.getD j none) (List.range (M + 1)) List.pairwise_lt_range
  obtain ⟨ps, pl, pin⟩ := S.few
  have hz : hs.toList.length = hs.size := Array.length_toList
  rw [hz] at pl
  have n1 : (L.map (·.1)).length ≤ ps.length := nat_nodup_len _ ps (List.Pairwise.imp (fun h => Nat.ne_of_lt h) rs.1) fun j hj => by
    obtain ⟨⟨i, k⟩, hq, rfl⟩ := List.mem_map.mp hj
    exact pin i (inL.mp hq).1 (by rw [(inL.mp hq).2]; exact fun z => nomatch z)
  have all : ∀ k, k < hs.size → k ∈ L.map (·.2) := fun k hk => by
    obtain ⟨j, j1, j2⟩ := S.has k (by rw [Array.length_toList]; exact hk)
    exact List.mem_map.mpr ⟨(j, k), inL.mpr ⟨j1, j2⟩, rfl⟩
  have n2 := nat_nodup_len (List.range hs.size) (L.map (·.2)) List.nodup_range fun k hk => all k (List.mem_range.mp hk)
  rw [List.length_map] at n1 n2
  rw [List.length_range] at n2
  refine ⟨tabOf t M ow, (L.map (·.2)).toArray, by rw [relaid_eq, hw, Nat.add_sub_cancel, e, ← hL]; rfl, perm_range _ _ (by rw [List.length_map]; omega) all, ?_, rfl, rfl, rfl⟩
  have pe : (tabOf t M ow).place.toList = L.map (·.1) := by rw [← hL]; rfl
  refine ⟨by rw [pe]; exact rs.1, rfl, by rw [pe]; simp, hM, fun j hj => ?_, fun i x j h1 h2 => ?_⟩
  · rw [pe] at hj
    exact Nat.le_of_lt_succ (List.mem_range.mp (rs.2 j hj))
  · rw [pe, List.getElem?_map] at h2
    obtain ⟨⟨i0, k⟩, hq, rfl⟩ := Option.map_eq_some_iff.mp h2
    have h1' : ((L.map (·.2)).map fun i => hs.getD i 0)[i]? = some x := h1
    rw [List.getElem?_map, List.getElem?_map, hq] at h1'
    obtain ⟨q1, q2⟩ := inL.mp (List.mem_of_getElem? hq)
    obtain ⟨y, y1, y2⟩ := S.who i0 k q1 q2
    have ey : hs.getD k 0 = y := by rw [Array.getD_eq_getD_getElem?, ← Array.getElem?_toList, y1]; rfl
    have ex : x = y := (Option.some.inj h1').symm.trans ey
    subst ex
    obtain ⟨K, e3, f3⟩ := y2
    refine ⟨K, e3, fun c hc => ?_⟩
    obtain ⟨k', hk'⟩ := Option.ne_none_iff_exists'.mp (f3 c hc)
    show way M x c ∈ (tabOf t M ow).place.toList
    rw [pe]
    exact List.mem_map.mpr ⟨(way M x c, k'), inL.mpr ⟨way_in _ _ _, hk'⟩, rfl⟩
end Vs

/-! Sets of keys that are objects (tuples), of up to a thousand members. -/
namespace Vs
open PySem PySem.Spec PyProof.Rows L2
/-- a kind of key that a set may hold -/
structure Kd (P : Program) (w : World) (K : Type) [DecidableEq K] where
  knd : HeapKind P w K
  cls : ∀ {A : Around} {E : Value → Shared → Prop} {s : Shared} {k : K} {b : Addr} {Q : Bool → Shared → Prop}, knd.is s.heap k b → Q false s → wpAny (model P w) A (ofAClassStatement 8 (.ref b)) Q E s
  byv : ∀ {A : Around} {E : Value → Shared → Prop} {s : Shared} {k : K} {b : Addr} {Q : Bool → Shared → Prop}, knd.is s.heap k b → Q true s → wpAny (model P w) A (hashByValue 8 (.ref b)) Q E s
  ext : ∀ {h h' : Heap} {k : K} {b : Addr}, knd.is h k b → (∀ c o, h.get? c = some o → h'.get? c = some o) → knd.is h' k b
  but : ∀ {h h' : Heap} {k : K} {a b : Addr} {o : Obj} {es : Array (Int × Value)} {ep : Nat} {t : SetTable}, knd.is h k b → h.get? a = some o → o.data = .set es ep t → Heap.SameBut a h h' → knd.is h' k b
section
variable {P : Program} {w : World} {K : Type} [DecidableEq K] (M : Kd P w K) {A : Around} {E : Value → Shared → Prop} {s : Shared}
/-- a search among such keys shows nothing -/
theorem Kd.unseen {k : K} {b : Addr} {Q : Bool → Shared → Prop} (hb : M.knd.is s.heap k b) {ys : List Value} (hy : ∀ y ∈ ys, ∃ k' c, y = Value.ref c ∧ M.knd.is s.heap k' c) (h : Q false s) :
    wpAny (model P w) A (searchCouldBeSeen (.ref b) ys) Q E s := by
  unfold searchCouldBeSeen
  refine wpAny_bind (wpAny_forIn_list _ (fun left r t => r.1 = none ∧ t = s ∧ ∀ y ∈ left, ∃ k' c, y = Value.ref c ∧ M.knd.is s.heap k' c) _ ?_ ?_ _ _ ⟨rfl, rfl, hy⟩)
  · rintro y left r t ⟨hr, rfl, all⟩
    obtain ⟨k', c, rfl, hc⟩ := all y List.mem_cons_self
    have fin : ∀ y ∈ left, ∃ k' c, y = Value.ref c ∧ M.knd.is t.heap k' c := fun u hu => all u (List.mem_cons_of_mem _ hu)
    dsimp only
    by_cases hv : (b == c || (carriedByValue (.ref b) && carriedByValue (.ref c))) = true
    · exact wp_if_pos hv (wpAny_pure ⟨rfl, rfl, fin⟩)
    · refine wp_if_neg hv (wpAny_bind (M.knd.quiet hb ?_))
      simp only [Bool.not_true, Bool.false_eq_true, if_false]
      refine wpAny_bind (M.knd.quiet hc ?_)
      simp only [Bool.not_true, Bool.false_eq_true, if_false]
      refine wpAny_bind (M.cls hb ?_)
      simp only [Bool.false_eq_true, if_false]
      refine wpAny_bind (M.cls hc ?_)
      simp only [Bool.false_eq_true, if_false]
      exact wpAny_pure ⟨rfl, rfl, fin⟩
  · rintro ⟨r1, r2⟩ t ⟨hr, rfl, _⟩
    simp only at hr
    subst hr
    exact wpAny_pure h
abbrev Kd.hv (k : K) : Int := M.knd.hash k
def Kd.row (p : Addr × K) : Int × Value := (M.hv p.2, .ref p.1)
/-- the set at a holds L -/
structure Holds (h : Heap) (a : Addr) (L : List (Addr × K)) (es : Array (Int × Value)) (ep : Nat) (t : SetTable) : Prop where
  ob : ∃ o, h.get? a = some o ∧ o.ExactSet ∧ o.data = .set es ep t
  rows : es.toList = L.map M.row
  tab : Tab t (L.map fun p => M.hv p.2)
  nd : (L.map (·.2)).Nodup
  mem : ∀ p ∈ L, M.knd.is h p.2 p.1
  pl : t.plain = true
  ld : w.params.followText "set-order" = true ∨ t.led = true
  room : L.length * 5 < t.mask * 3
  few : L.length ≤ 1000
  small : t.mask ≤ 8191
variable {M} {a : Addr} {L : List (Addr × K)} {es : Array (Int × Value)} {ep : Nat} {t : SetTable}
theorem Holds.es_len (R : Holds M s.heap a L es ep t) : es.size = L.length := by
  rw [← Array.length_toList, R.rows, List.length_map]
theorem Holds.pl_len (R : Holds M s.heap a L es ep t) : t.place.size = L.length := by
  have e := R.tab.len
  rw [List.length_map, Array.length_toList] at e
  exact e
theorem fits_of (t : SetTable) {n : Nat} (h1 : t.place.size = n) (h2 : t.dummies = #[]) (h3 : n ≤ t.mask) : t.fits n = true := by
  unfold SetTable.fits SetTable.fill
  rw [h2, Bool.and_eq_true, beq_iff_eq, decide_eq_true_eq]
  exact ⟨h1, by show t.place.size + 0 ≤ _; omega⟩
theorem Holds.fits (R : Holds M s.heap a L es ep t) : t.fits es.size = true := by
  rw [R.es_len]
  have := R.room
  exact fits_of t R.pl_len R.tab.nod (by omega)
theorem Holds.at_row (R : Holds M s.heap a L es ep t) {i : Nat} {p : Addr × K} (h : L[i]? = some p) : es[i]? = some (M.hv p.2, .ref p.1) := by
  rw [← Array.getElem?_toList, R.rows, List.getElem?_map, h]
  rfl
theorem Holds.sound (R : Holds M s.heap a L es ep t) : ¬ t.gaveWay = true := by
  unfold SetTable.gaveWay
  rw [R.tab.pw.odd]
  decide
/-- the state of the way at its c-th step -/
abbrev stp (m : Nat) (x : Int) (c : Nat) : SetTable.Probe := nth m (runAt m (SetTable.bits x % (m + 1)) (SetTable.bits x)) c
theorem stp_add (m : Nat) (x : Int) (c q : Nat) : nth m (stp m x c) q = stp m x (c + q) := (nth_add m c _ q).symm
theorem stp_dummy (m : Nat) (x : Int) : ∀ c, (stp m x c).dummy = none
  | 0 => rfl
  | c + 1 => by
    show (nth m _ (c + 1)).dummy = none
    rw [nth_succ]
    have ih := stp_dummy m x c
    unfold adv
    split <;> exact ih
/-- from the c-th step of the way on -/
theorem find_from (R : Holds M s.heap a L es ep t) {x : Addr} {k : K} (hx : M.knd.is s.heap k x) (hu : M.knd.room A) {S : Nat} (hS : S < 10 * SetTable.turns t.mask)
    (free : way t.mask (M.hv k) S ∉ t.place.toList) (busy : ∀ c, c < S → way t.mask (M.hv k) c ∈ t.place.toList) {Q : SetFound → Shared → Prop}
    (yes : k ∈ L.map (·.2) → Q (.there none) s) (no : k ∉ L.map (·.2) → Q (.free (way t.mask (M.hv k) S) false) s) :
    ∀ (f c : Nat) (stand : Option SetTable.Probe), stand.getD (t.probeStart (M.hv k)) = stp t.mask (M.hv k) c → c ≤ S → S < f + c →
      (∀ (i : Nat) p, L[i]? = some p → p.2 = k → ∃ d, c ≤ d ∧ d < S ∧ t.place.toList[i]? = some (way t.mask (M.hv k) d)) →
      wpAny (model P w) A (setSearchFrom a (.ref x) (M.hv k) true f stand) Q E s
  | 0, c, stand, _, _, hf, _ => absurd hf (by omega)
  | f + 1, c, stand, hst, hc, hf, inw => by
    obtain ⟨o, ho, hex, hd⟩ := R.ob
    rw [setSearchFrom_succ]
    refine wpAny_bind (wpAny_setState_of ho hd R.fits ?_)
    dsimp only
    refine wp_if_neg R.sound ?_
    have wy : ∀ q, (nth t.mask (stp t.mask (M.hv k) c) q).j = way t.mask (M.hv k) (c + q) := fun q => congrArg SetTable.Probe.j (stp_add _ _ c q)
    have hat : ∀ (i : Nat) p, L[i]? = some p → (es[i]?.map (·.1)).getD 0 = M.hv p.2 := fun i p hp => by
      rw [R.at_row hp]
      rfl
    rcases go_spec t R.tab.up R.tab.nod (fun i => (es[i]?.map (·.1)).getD 0) (M.hv k) (10 * SetTable.turns t.mask) (S - c) (stp t.mask (M.hv k) c) (stp_dummy _ _ c) (by omega)
        (fun q hq => by rw [wy]; exact busy _ (by omega)) (by rw [wy, show c + (S - c) = S by omega]; exact free) with ⟨q, i, hq, hi, hh, miss, pr⟩ | ⟨miss, pr⟩
    · rw [wy] at hi
      have pr2 : t.probe (fun i => (es[i]?.map (·.1)).getD 0) (M.hv k) (stand.getD (t.probeStart (M.hv k))) = some (.candidate (way t.mask (M.hv k) (c + q)) i (stp t.mask (M.hv k) (c + q + 1))) := by
        rw [hst, ← wy, show c + q + 1 = c + (q + 1) by omega, ← stp_add]
        exact pr
      rw [pr2]
      dsimp only
      have il : i < L.length := by
        have h1 := (List.getElem?_eq_some_iff.mp hi).1
        rw [Array.length_toList, R.pl_len] at h1
        exact h1
      obtain ⟨p, hp⟩ : ∃ p, L[i]? = some p := ⟨_, List.getElem?_eq_getElem il⟩
      have pm : p ∈ L := List.mem_of_getElem? hp
      have live : t.slot (way t.mask (M.hv k) (c + q)) = .live i := slot_live R.tab.up hi
      have main : wpAny (model P w) A (searchRest a (.ref x) (M.hv k) true f es t (way t.mask (M.hv k) (c + q)) i (stp t.mask (M.hv k) (c + q + 1))) Q E s := by
        unfold searchRest
        rw [R.at_row hp]
        dsimp only
        refine wpAny_bind (wpAny_holding (M.knd.eqBool hu (R.mem p pm) hx ?_))
        refine wpAny_bind (wpAny_setState_of ho hd R.fits ?_)
        dsimp only
        by_cases e : p.2 = k
        · refine wp_if_pos (by simp [e]) (wpAny_pure (yes ?_))
          rw [← e]
          exact List.mem_map_of_mem pm
        · refine wp_if_neg (by simp [e]) ?_
          rw [sameMem]
          dsimp only
          simp only [if_true, live, R.at_row hp]
          refine wpAny_bind (wpAny_isSame_ref_self (wpAny_bind (wpAny_pure ?_)))
          simp only [if_true]
          refine wp_if_neg (by simp [e]) ?_
          refine find_from R hx hu hS free busy yes no f (c + q + 1) _ rfl (by omega) (by omega) fun i0 p0 h0 e0 => ?_
          obtain ⟨d, d1, d2, d3⟩ := inw i0 p0 h0 e0
          refine ⟨d, Nat.lt_of_not_le fun z => ?_, d2, d3⟩
          rcases Nat.lt_or_eq_of_le z with y | y
          · exact miss (d - c) i0 (by omega) (by rw [wy, show c + (d - c) = d by omega]; exact d3) ((hat i0 p0 h0).trans (congrArg M.hv e0))
          · have s0 := slot_live R.tab.up d3
            rw [y, live] at s0
            cases s0
            rw [hp] at h0
            cases h0
            exact e e0
      by_cases hl : t.led = true
      · exact wp_if_neg (by simp [hl]) main
      · refine wp_if_pos (by simp [hl]) (wpAny_bind (M.unseen hx (fun y hy => ?_) ?_))
        · obtain ⟨u, hu1, hu2⟩ := List.mem_map.mp hy
          have u2 : u ∈ es.toList := by
            have h1 : u ∈ es ∧ u.1 = M.hv k := by simpa using hu1
            simpa using h1.1
          rw [R.rows] at u2
          obtain ⟨p2, p3, rfl⟩ := List.mem_map.mp u2
          exact ⟨p2.2, p2.1, hu2.symm, R.mem p2 p3⟩
        · exact wp_if_neg (by decide) main
    · have pr2 : t.probe (fun i => (es[i]?.map (·.1)).getD 0) (M.hv k) (stand.getD (t.probeStart (M.hv k))) = some (.empty (way t.mask (M.hv k) S) none) := by
        have e := wy (S - c)
        rw [show c + (S - c) = S by omega] at e
        rw [hst, ← e]
        exact pr
      rw [pr2]
      dsimp only
      refine wpAny_pure (no fun km => ?_)
      obtain ⟨p0, h0, e0⟩ := List.mem_map.mp km
      obtain ⟨i0, hi0, g0⟩ := List.getElem_of_mem h0
      have h00 : L[i0]? = some p0 := by rw [List.getElem?_eq_getElem hi0, g0]
      obtain ⟨d, d1, d2, d3⟩ := inw i0 p0 h00 e0
      exact miss (d - c) i0 (by omega) (by rw [wy, show c + (d - c) = d by omega]; exact d3) ((hat i0 p0 h00).trans (congrArg M.hv e0))
/-- the search that adding asks for -/
theorem find_g (R : Holds M s.heap a L es ep t) {x : Addr} {k : K} (hx : M.knd.is s.heap k x) (hu : M.knd.room A) {Q : SetFound → Shared → Prop} (yes : k ∈ L.map (·.2) → Q (.there none) s)
    (no : ∀ S, k ∉ L.map (·.2) → way t.mask (M.hv k) S ∉ t.place.toList → (∀ c, c < S → way t.mask (M.hv k) c ∈ t.place.toList) → Q (.free (way t.mask (M.hv k) S) false) s) :
    wpAny (model P w) A (setSearch a (.ref x) (M.hv k) true) Q E s := by
  have h1 := R.room
  have h2 := R.small
  obtain ⟨S, s1, s2, s3⟩ := R.tab.free (by rw [List.length_map]; omega) (M.hv k)
  have ht : SetTable.turns t.mask = t.mask + 15 := rfl
  unfold setSearch
  refine find_from R hx hu s1 s2 s3 yes (fun z => no S z s2 s3) 100000 0 none rfl (Nat.zero_le _) (by omega) fun i p hp e => ?_
  have il : i < t.place.toList.length := by
    rw [Array.length_toList, R.pl_len]
    exact (List.getElem?_eq_some_iff.mp hp).1
  obtain ⟨d, d1, d2⟩ := R.tab.ahead (x := M.hv k) s2 (by rw [List.getElem?_map, hp, ← e]; rfl) (List.getElem?_eq_getElem il)
  exact ⟨d, Nat.zero_le _, d1, by rw [d2]; exact List.getElem?_eq_getElem il⟩
end
end Vs

namespace Vs
open PySem PySem.Spec PyProof.Rows L2
section
variable {P : Program} {w : World} {K : Type} [DecidableEq K] {M : Kd P w K} {A : Around} {E : Value → Shared → Prop} {s : Shared}
theorem taken {α : Type} (L : List α) : ∀ n, n ≤ L.length → (List.range n).filterMap (fun i => L[i]?) = L.take n
  | 0, _ => rfl
  | n + 1, h => by
    rw [List.range_succ, List.filterMap_append, taken L n (by omega), List.take_succ, List.getElem?_eq_getElem (by omega)]
    simp [List.getElem?_eq_getElem (show n < L.length by omega)]
/-- the rows in another order -/
theorem ordered {L : List (Addr × K)} {es : Array (Int × Value)} (hr : es.toList = L.map M.row) {order : Array Nat} (hp : order.toList.Perm (List.range L.length)) :
    ∃ L2 : List (Addr × K), (order.filterMap (es[·]?)).toList = L2.map M.row ∧ L2.Perm L ∧ (L2.map fun p => M.hv p.2) = order.toList.map fun i => (es.map (·.1)).getD i 0 := by
  have ent : ∀ i : Nat, es[i]? = (L[i]?).map M.row := fun i => by rw [← Array.getElem?_toList, hr, List.getElem?_map]
  have all : ∀ i ∈ order.toList, i < L.length := fun i hi => List.mem_range.mp (hp.mem_iff.mp hi)
  refine ⟨order.toList.filterMap fun i => L[i]?, ?_, ?_, ?_⟩
  · rw [Array.toList_filterMap, List.map_filterMap]
    congr 1
    funext i
    exact ent i
  · have h := hp.filterMap fun i => L[i]?
    rw [taken L _ (Nat.le_refl _), List.take_length] at h
    exact h
  · clear hp
    generalize order.toList = l at all
    induction l with
    | nil => rfl
    | cons i l ih =>
      have hi := all i List.mem_cons_self
      have e : (es.map (·.1)).getD i 0 = M.hv (L[i]).2 := by
        rw [Array.getD_eq_getD_getElem?, Array.getElem?_map, ent, List.getElem?_eq_getElem hi]
        rfl
      rw [List.filterMap_cons_some (List.getElem?_eq_getElem hi), List.map_cons, List.map_cons, ih fun j hj => all j (List.mem_cons_of_mem _ hj), e]
variable {a : Addr} {L : List (Addr × K)} {es : Array (Int × Value)} {ep : Nat} {t : SetTable}
/-- the table is laid anew for n = |L| members -/
theorem relay_g {o : Obj} (ho : s.heap.get? a = some o) (hex : o.ExactSet) (hd : o.data = .set es ep t) (rows : es.toList = L.map M.row) (pl : t.place.size = L.length) (dm : t.dummies = #[]) (fl : L.length ≤ t.mask)
    (nd : (L.map (·.2)).Nodup) (mem : ∀ p ∈ L, M.knd.is s.heap p.2 p.1) (plain : t.plain = true) (ld : w.params.followText "set-order" = true ∨ t.led = true) (l1 : 1 ≤ L.length) (l2 : L.length ≤ 1000) {Q : Unit → Shared → Prop}
    (hQ : ∀ h' L' es' ep' t', Heap.SameBut a s.heap h' → Holds M h' a L' es' ep' t' → L'.Perm L → Q () { s with heap := h' }) : wpAny (model P w) A (setRelay a (SetTable.grown L.length)) Q E s := by
  have en : es.size = L.length := by rw [← Array.length_toList, rows, List.length_map]
  obtain ⟨m, m1, m2, m3, m4⟩ := size_ok l1 l2
  obtain ⟨t', order, e, pe, T, em, el, epl⟩ := relaid_tab t (hs := es.map (·.1)) m1 m2 (by rw [Array.size_map, en]; omega)
  rw [Array.size_map, en] at pe
  obtain ⟨L2, r1, r2, r3⟩ := ordered rows pe
  rw [← r3] at T
  have sz : (order.filterMap (es[·]?)).size = es.size := by rw [← Array.length_toList, r1, List.length_map, r2.length_eq, en]
  rw [setRelay_eq]
  refine wpAny_bind (wpAny_setState_of ho hd (by rw [en]; exact fits_of t pl dm fl) ?_)
  dsimp only
  refine wp_if_neg (by rw [m1, sizeLine_eq]; omega) ?_
  rw [e]
  dsimp only
  refine wpAny_bind (wp_if_neg (by rw [sz]; simp) (wpAny_pure ?_))
  dsimp only
  refine wpAny_storeSet_of ho hd ?_ (by rw [sz, en, sizeLine_eq]; omega)
  have sb : Heap.SameBut a s.heap (s.heap.update a (Obj.putSet (order.filterMap (es[·]?)) t')) := Heap.SameBut.update ..
  refine hQ _ L2 _ (ep + 1) t' sb ⟨⟨_, store_at ho hd, ⟨hex.1, hex.2.1, hex.2.2⟩, rfl⟩, r1, T, (r2.map _).nodup_iff.mpr nd, fun p hp => M.but (mem p (r2.mem_iff.mp hp)) ho hd sb, by rw [epl]; exact plain, by rw [el]; exact ld, by rw [r2.length_eq, em]; omega, by rw [r2.length_eq]; exact l2, by rw [em]; exact m4⟩ r2
/-- set.add -/
theorem add_g (R : Holds M s.heap a L es ep t) {x : Addr} {k : K} (hx : M.knd.is s.heap k x) (hu : M.knd.room A) (few : L.length + 1 ≤ 1000) {Q : Bool → Shared → Prop}
    (hQ : ∀ b h' L' es' ep' t', Heap.SameBut a s.heap h' → Holds M h' a L' es' ep' t' → (k ∈ L.map (·.2) → L' = L) → (k ∉ L.map (·.2) → L'.Perm ((x, k) :: L)) → Q b { s with heap := h' }) :
    wpAny (model P w) A (setAddHashed a (.ref x) (M.hv k)) Q E s := by
  obtain ⟨o, ho, hex, hd⟩ := R.ob
  have room := R.room
  unfold setAddHashed
  refine wpAny_holding ?_
  rw [show (100000 : Nat) = 99999 + 1 from rfl, setAddHashedIn_succ]
  refine wpAny_bind (wpAny_setState_of ho hd R.fits ?_)
  dsimp only
  refine wp_if_neg (by simp [byScan, Value.scannable]) ?_
  refine wpAny_bind (find_g R hx hu (fun hm => wpAny_pure (hQ false s.heap L es ep t (Heap.SameBut.refl a s.heap) R (fun _ => rfl) fun z => absurd hm z)) fun S hm hS hb => ?_)
  dsimp only
  refine wpAny_bind (wpAny_setState_of ho hd R.fits ?_)
  dsimp only
  obtain ⟨p, hp⟩ : ∃ p, SetTable.below t.place (way t.mask (M.hv k) S) = p := ⟨_, rfl⟩
  obtain ⟨q1, q2, q3⟩ := R.tab.put hp hS hb
  have q4 : (t.put (way t.mask (M.hv k) S)).2 = p := hp
  have q5 : (t.put (way t.mask (M.hv k) S)).1.mask = t.mask := rfl
  have q6 : (t.put (way t.mask (M.hv k) S)).1.plain = true := R.pl
  have q7 : (t.put (way t.mask (M.hv k) S)).1.led = t.led := rfl
  generalize t.put (way t.mask (M.hv k) S) = pt at q2 q3 q4 q5 q6 q7 ⊢
  obtain ⟨t1, p'⟩ := pt
  dsimp only at q2 q3 q4 q5 q6 q7 ⊢
  subst q4
  first
    | (refine wpAny_bind ?_; refine wp_if_pos q6 ?_; refine M.byv hx ?_)
    | refine wp_if_pos q6 (wpAny_bind (M.byv hx ?_))
  simp only [if_true]
  rw [List.length_map] at q1 q3
  have pm : (L.take p' ++ (x, k) :: L.drop p').Perm ((x, k) :: L) := put_perm L p' (x, k)
  have rows1 : (SetTable.insertAt es p' (M.hv k, .ref x)).toList = (L.take p' ++ (x, k) :: L.drop p').map M.row := by
    rw [SetTable.toList_insertAt, R.rows, List.map_append, List.map_cons, List.map_take, List.map_drop]
    rfl
  have tab1 : Tab t1 ((L.take p' ++ (x, k) :: L.drop p').map fun p => M.hv p.2) := by
    rw [List.map_append, List.map_cons, List.map_take, List.map_drop]
    exact q2
  generalize SetTable.insertAt es p' (M.hv k, .ref x) = es1 at rows1 ⊢
  generalize L.take p' ++ (x, k) :: L.drop p' = L1 at pm rows1 tab1
  have n1 : L1.length = L.length + 1 := pm.length_eq
  have en1 : es1.size = L.length + 1 := by rw [← Array.length_toList, rows1, List.length_map, n1]
  have nd1 : (L1.map (·.2)).Nodup := by
    refine (pm.map (·.2)).nodup_iff.mpr ?_
    rw [List.map_cons]
    exact List.nodup_cons.mpr ⟨hm, R.nd⟩
  refine wpAny_bind (wpAny_storeSet_of ho hd ?_ (by rw [en1, sizeLine_eq]; omega))
  have sb : Heap.SameBut a s.heap (s.heap.update a (Obj.putSet es1 t1)) := Heap.SameBut.update ..
  have ho1 := store_at (es' := es1) (t' := t1) ho hd
  generalize s.heap.update a (Obj.putSet es1 t1) = h1 at sb ho1 ⊢
  have mem1 : ∀ p ∈ L1, M.knd.is h1 p.2 p.1 := fun p hp => by
    rcases List.mem_cons.mp (pm.mem_iff.mp hp) with e | hp
    · rw [e]
      exact M.but hx ho hd sb
    · exact M.but (R.mem p hp) ho hd sb
  have ld1 : w.params.followText "set-order" = true ∨ t1.led = true := by rw [q7]; exact R.ld
  have fill : t1.tooFull = decide ((L.length + 1) * 5 ≥ t1.mask * 3) := by
    unfold SetTable.tooFull
    rw [q3]
  have pl1 : t1.place.size = L1.length := by
    have e := tab1.len
    rw [List.length_map, Array.length_toList] at e
    exact e
  by_cases full : t1.tooFull = true
  · have h9 := R.small
    first
      | (refine wpAny_bind ?_; refine wp_if_pos (by simp [full]) ?_)
      | (refine wp_if_pos (by simp [full]) ?_; refine wpAny_bind ?_)
    rw [R.es_len, ← n1]
    refine relay_g (s := { s with heap := h1 }) ho1 ⟨hex.1, hex.2.1, hex.2.2⟩ rfl rows1 pl1 tab1.nod (by rw [n1, q5]; omega) nd1 mem1 q6 ld1 (by omega) (by omega) fun h2 L2 es2 ep2 t2 sb2 R2 pm2 => ?_
    exact wpAny_pure (hQ true h2 L2 es2 ep2 t2 (sb.trans sb2) R2 (fun z => absurd z hm) fun _ => pm2.trans pm)
  · rw [fill, decide_eq_true_eq] at full
    first
      | refine wp_if_neg (by simp [fill, full]) ?_
      | (refine wpAny_bind ?_; refine wp_if_neg (by simp [fill, full]) ?_; refine wpAny_pure ?_)
    exact wpAny_pure (hQ true h1 L1 es1 (ep + 1) t1 sb ⟨⟨_, ho1, ⟨hex.1, hex.2.1, hex.2.2⟩, rfl⟩, rows1, tab1, nd1, mem1, q6, ld1, by rw [n1]; omega, by omega, by rw [q5]; exact R.small⟩ (fun z => absurd z hm) fun _ => pm)
end
end Vs

namespace Vs
open PySem PySem.Spec PyProof.Rows L2
/-- a new set's object -/
abbrev O0 (w : World) : Obj := { cls := .type "set", dict := none, data := .set #[] 0 (.fresh 0 0 (!w.params.followText "set-order")) }
/-- of the first i items each is in, and none besides -/
structure Part {K : Type} (ks : List (Addr × K)) (i : Nat) (L : List (Addr × K)) : Prop where
  sub : ∀ p ∈ L, p ∈ ks
  all : ∀ j, j < i → ∀ p, ks[j]? = some p → p.2 ∈ L.map (·.2)
  len : L.length ≤ i
section
variable {P : Program} {w : World} {K : Type} [DecidableEq K] {M : Kd P w K} {A : Around} {E : Value → Shared → Prop} {s : Shared}
theorem Part.next {ks L L' : List (Addr × K)} {i : Nat} {p : Addr × K} (g : Part ks i L) (h : ks[i]? = some p) (c1 : p.2 ∈ L.map (·.2) → L' = L) (c2 : p.2 ∉ L.map (·.2) → L'.Perm (p :: L)) : Part ks (i + 1) L' := by
  by_cases c : p.2 ∈ L.map (·.2)
  · rw [c1 c]
    refine ⟨g.sub, fun j hj q hq => ?_, by have := g.len; omega⟩
    rcases Nat.lt_or_eq_of_le (Nat.le_of_lt_succ hj) with z | z
    · exact g.all j z q hq
    · rw [z, h] at hq
      cases hq
      exact c
  · have pm := c2 c
    refine ⟨fun q hq => ?_, fun j hj q hq => ?_, by rw [pm.length_eq, List.length_cons]; have := g.len; omega⟩
    · rcases List.mem_cons.mp (pm.mem_iff.mp hq) with e | hq
      · rw [e]
        exact List.mem_of_getElem? h
      · exact g.sub q hq
    · rw [(pm.map (·.2)).mem_iff, List.map_cons]
      rcases Nat.lt_or_eq_of_le (Nat.le_of_lt_succ hj) with z | z
      · exact List.mem_cons_of_mem _ (g.all j z q hq)
      · rw [z, h] at hq
        cases hq
        exact List.mem_cons_self
theorem Holds.ext {h h' : Heap} {a : Addr} {L : List (Addr × K)} {es : Array (Int × Value)} {ep : Nat} {t : SetTable} (R : Holds M h a L es ep t) (ha : ∀ o, h.get? a = some o → h'.get? a = some o) (hm : ∀ p ∈ L, M.knd.is h' p.2 p.1) : Holds M h' a L es ep t := by
  obtain ⟨o, ho, r⟩ := R.ob
  exact ⟨⟨o, ha o ho, r⟩, R.rows, R.tab, R.nd, hm, R.pl, R.ld, R.room, R.few, R.small⟩
theorem holds_new {h : Heap} {a : Addr} (ho : h.get? a = some (O0 w)) : Holds M h a [] #[] 0 (.fresh 0 0 (!w.params.followText "set-order")) where
  ob := ⟨_, ho, ⟨rfl, rfl, rfl⟩, rfl⟩
  rows := rfl
  tab := ⟨List.Pairwise.nil, rfl, rfl, ⟨3, by decide, rfl⟩, fun j hj => (by cases hj), fun i x j hi => (by simp at hi)⟩
  nd := List.nodup_nil
  mem := fun p hp => (by cases hp)
  pl := rfl
  ld := by
    show _ ∨ (!w.params.followText "set-order") = true
    cases w.params.followText "set-order" <;> simp
  room := by
    show 0 * 5 < 7 * 3
    decide
  few := Nat.zero_le _
  small := by
    show 7 ≤ 8191
    decide
/-- set.update's loop -/
theorem loop_g {I : Addr} {fp wr : List Addr} {G : Array GenState → Array GenState → Prop} {n : Nat} {Pv : Nat → Value → Prop} {St : Nat → Shared → Prop} {R : Result → Shared → Prop}
    (W : WalksS P w A.in1 I fp wr G n Pv St) {S : Addr} (sf : S ∉ fp) {ks : List (Addr × K)} (hn : n = ks.length) (few : ks.length ≤ 1000) (hv : ∀ i v, Pv i v → ∃ p, ks[i]? = some p ∧ v = .ref p.1)
    {h0 : Heap} (hk : ∀ p ∈ ks, M.knd.is h0 p.2 p.1) (sn : h0.get? S = none) (wn : ∀ b ∈ wr, h0.get? b = none) (hu : M.knd.room A.in1)
    (fin : ∀ s' L es ep t, Moved (S :: wr) G s s' → Holds M s'.heap S L es ep t → Part ks n L → (∀ b o, h0.get? b = some o → s'.heap.get? b = some o) → R (.ok (.ret .none)) s') :
    ∀ (k i : Nat) (u : Shared), i + k = n → St i u → (u = s ∨ Moved (S :: wr) G s u) → (∀ b o, h0.get? b = some o → u.heap.get? b = some o) → (∃ L es ep t, Holds M u.heap S L es ep t ∧ Part ks i L) →
      codeAny (model P w) A (.builtin "set.update.loop" ⟨[.ref S, .ref I], []⟩) R u := by
  have sw : S ∉ wr := fun z => sf (W.sub _ z)
  have wsub : ∀ b ∈ wr, b ∈ S :: wr := fun b hb => List.mem_cons_of_mem _ hb
  have onw : ∀ {u u' : Shared}, Moved wr G u u' → (∀ b o, h0.get? b = some o → u.heap.get? b = some o) → ∀ b o, h0.get? b = some o → u'.heap.get? b = some o := fun m q b o e =>
    m.heap b o (fun z => by rw [wn b z] at e; cases e) (q b o e)
  have goon : ∀ {u u' : Shared}, (u = s ∨ Moved (S :: wr) G s u) → Moved (S :: wr) G u u' → Moved (S :: wr) G s u' := fun m m' => by
    rcases m with m | m
    · rw [← m]
      exact m'
    · exact Moved.trans W.gtrans m m'
  intro k
  induction k with
  | zero =>
    intro i u hi hst mv old ⟨L, es, ep, t, H, g⟩
    rw [Nat.add_zero] at hi
    subst hi
    refine codeAny_builtin F.entry_set_update_loop ?_
    rw [Around.under_plainId F.plain_set_update_loop _]
    show wpAny _ A.in1 (pyNext (.ref I) >>= _) _ _ u
    refine wpAny_bind (W.done u _ _ hst fun u' m => ?_)
    show wpAny _ A.in1 (ret Value.none) _ _ u'
    have old' := onw m old
    exact wpAny_pure (fin u' L es ep t (goon mv (m.mono wsub)) (H.ext (fun o e => m.heap S o sw e) fun p hp => M.ext (hk p (g.sub p hp)) old') g old')
  | succ k ih =>
    intro i u hi hst mv old ⟨L, es, ep, t, H, g⟩
    refine codeAny_builtin F.entry_set_update_loop ?_
    rw [Around.under_plainId F.plain_set_update_loop _]
    show wpAny _ A.in1 (pyNext (.ref I) >>= _) _ _ u
    refine wpAny_bind (W.item i u _ _ (by omega) hst fun v u' hP hst' m => ?_)
    obtain ⟨p, hp, rfl⟩ := hv i v hP
    have old' := onw m old
    have hx := M.ext (hk p (List.mem_of_getElem? hp)) old'
    have H' : Holds M u'.heap S L es ep t := H.ext (fun o e => m.heap S o sw e) fun q hq => M.ext (hk q (g.sub q hq)) old'
    show wpAny _ A.in1 (holding [Value.ref p.1] (setAdd S (.ref p.1)) >>= _) _ _ u'
    refine wpAny_bind (wpAny_holding ?_)
    unfold setAdd
    refine wpAny_holding (wpAny_bind (M.knd.pyHash hu hx ?_))
    have gl := g.len
    refine add_g (s := { u' with toks := u'.toks + M.knd.draws p.2 }) H' hx hu (by omega) fun b h' L' es' ep' t' sb H2 c1 c2 => ?_
    have keep : ∀ b o, b ≠ S → u'.heap.get? b = some o → h'.get? b = some o := fun b o z e => (sb.2 b z).trans e
    refine wpAny_pure ⟨plainId_quiet F.plain_set_update_loop _, ih (i + 1) _ (by omega) (W.frame _ u' h' _ hst' (Nat.le_add_right _ _) fun b hb o e => keep b o (fun z => sf (by rw [← z]; exact hb)) e)
      (.inr (goon mv ((m.mono wsub).then_heap (Nat.le_add_right _ _) fun b o hb e => keep b o (fun z => hb (by rw [z]; exact List.mem_cons_self)) e)))
      (fun b o e => keep b o (fun z => by rw [z, sn] at e; cases e) (old' b o e)) ⟨L', es', ep', t', H2, g.next hp c1 c2⟩⟩
end
end Vs

namespace Vs
open PySem PySem.Spec PyProof.Rows L2
section
variable {P : Program} {w : World} {K : Type} [DecidableEq K] {M : Kd P w K} {A : Around} {E : Value → Shared → Prop} {s : Shared}
theorem beyond {h : Heap} {b : Addr} (hb : h.objs.size ≤ b) : h.get? b = none := by
  cases q : h.get? b with
  | none => rfl
  | some o => exact absurd (Heap.lt_size q) (Nat.not_lt_of_le hb)
/-- what is left behind: the set, and all that was -/
def Left (M : Kd P w K) (ks : List (Addr × K)) (s s2 : Shared) : Prop := ∃ (h' : Heap) (tk : Nat) (L : List (Addr × K)) (es : Array (Int × Value)) (ep : Nat) (t : SetTable),
  s2 = { s with heap := h', toks := tk } ∧ Holds M h' s.heap.objs.size L es ep t ∧ Part ks ks.length L ∧ ∀ b o, s.heap.get? b = some o → h'.get? b = some o
theorem call_set_g {l : Addr} {items : Array Value} (ks : List (Addr × K)) {Q : Value → Shared → Prop} (hh : A.handled = none) (hl : s.heap.IsList l items) (hit : items.toList = ks.map fun p => Value.ref p.1)
    (hk : ∀ p ∈ ks, M.knd.is s.heap p.2 p.1) (few : ks.length ≤ 1000) (hu : ∀ B : Around, B.units ≤ A.units + 3 → M.knd.room B) (h : ∀ s2, Left M ks s s2 → Q (.ref s.heap.objs.size) s2) :
    wpAny (model P w) A (call (.type "set") [.ref l]) Q E s := by
  have isz : items.size = ks.length := by rw [← Array.length_toList, hit, List.length_map]
  obtain ⟨c, tl, hmro⟩ := F.called_set.mro
  have x1 := F.called_set.made
  have x2 := F.called_set.sub
  refine wpAny_call (codeAny_of_tree ?_)
  show wpAny _ _ (callAny (.type "set") _) _ _ _
  refine wpAny_pure ⟨Code.quiet_builtin _ (by decide +kernel), codeAny_builtin F.entry_type_call ?_⟩
  rw [Around.under_plain (weight_type_call_type "set" [.ref l] []) rfl]
  have x3 := F.called_set.notType
  have x4 := F.called_set.canCreate
  have x5 := F.typeCall_set_1 (.ref l)
  repeat (any_goals (first | assumption | wp_step))
  refine codeAny_mono (code_set_led1 (.ref l) (E := E) (Q₁ := fun ob t1 => ob = .ref s.heap.objs.size ∧ t1 = { s with heap := s.heap.push (O0 w) }) ⟨rfl, rfl⟩) fun r t1 hr => ?_
  cases r with
  | error e => exact hr
  | ok fl =>
    cases fl with
    | ret ob =>
      obtain ⟨rfl, rfl⟩ := hr
      have gS : (s.heap.push (O0 w)).get? s.heap.objs.size = some (O0 w) := Heap.get?_push_size _ rfl
      have tS : Shared.TypeIs { s with heap := s.heap.push (O0 w) } (.ref s.heap.objs.size) "set" := ⟨_, gS, rfl⟩
      have x6 := F.called_set.init.lookup
      have x7 := F.called_set.init.bind (.ref s.heap.objs.size)
      repeat (any_goals (first | assumption | wp_step))
      refine codeAny_mono (codeAny_call_builtin (R := wants (fun r s2 => r = .none ∧ Left M ks s s2) E) F.called_set.init.plain F.entry_set_init (check_set_init_1 tS ?_)) fun r2 s2 hr2 => ?_
      · obtain ⟨⟨ocls, odict, odata, oslots⟩, hol, hcl, nl, hdl⟩ := hl
        simp only at hcl hdl
        subst hcl; subst hdl
        have hol2 : (s.heap.push (O0 w)).get? l = some { cls := .type "list", dict := odict, data := .seq items nl, slots := oslots } := Heap.get?_push_of_some _ hol
        have y1 := F.sub_list_set
        have y2 := F.sub_list_frozenset
        have y3 : (Value.type "list" == Value.type "dict") = false := by decide
        have hl2 : (s.heap.push (O0 w)).IsList l items := ⟨_, hol2, rfl, nl, rfl⟩
        unfold Builtin.«set.__init__» noKeywords Builtin.Frozenset.updateFrom
        generalize hPI : pyIter = PI
        wp_walk
        subst hPI
        refine wpAny_pyIter_list hl2 (wpAny_bind (wpAny_runValue ?_))
        have lS : l < s.heap.objs.size := Heap.lt_size hol
        have e1 : (s.heap.push (O0 w)).objs.size = s.heap.objs.size + 1 := Heap.size_push ..
        have lI : l ≠ (s.heap.push (O0 w)).objs.size := by rw [e1]; exact Nat.ne_of_lt (Nat.lt_succ_of_lt lS)
        have h3 : A.in1.in1.in1.handled = none := by simp [hh]
        have vals : ∀ (i : Nat) (v : Value), items[i]? = some v → ∃ p, ks[i]? = some p ∧ v = .ref p.1 := fun i v hv => by
          rw [← Array.getElem?_toList, hit, List.getElem?_map] at hv
          obtain ⟨p, hp, rfl⟩ := Option.map_eq_some_iff.mp hv
          exact ⟨p, hp, rfl⟩
        refine loop_g (M := M) (ks := ks) (s := { s with heap := (s.heap.push (O0 w)).push { cls := .type "list_iterator", data := .fields #[.ref l, .int 0 0] } }) (Walks.list h3 _ l lI items).toS (S := s.heap.objs.size) ?sf isz few vals (h0 := s.heap) hk (beyond (Nat.le_refl _)) ?wn (hu _ ?rm)
          ?fin items.size 0 _ (Nat.zero_add _) ⟨⟨_, Heap.get?_push_size _ rfl, rfl, rfl⟩, hl2.push _⟩ (.inl rfl) (fun b o e => Heap.get?_push_of_some _ (Heap.get?_push_of_some _ e)) ⟨[], #[], 0, _, holds_new (Heap.get?_push_of_some _ gS), ⟨fun p hp => (by cases hp), fun j hj => absurd hj (Nat.not_lt_zero _), Nat.zero_le _⟩⟩
        case sf =>
          rw [e1]
          simp only [List.mem_cons, List.not_mem_nil, or_false, not_or]
          exact ⟨Nat.ne_of_lt (Nat.lt_succ_self _), Nat.ne_of_gt lS⟩
        case wn =>
          intro b hb
          rw [List.mem_singleton.mp hb, e1]
          exact beyond (Nat.le_succ _)
        case rm => simp [Around.in1]
        case fin =>
          intro u L es ep t m H g old
          obtain ⟨h', g2, d', tk', os'⟩ := u
          have z1 : g2 = s.gens := m.gens
          have z2 : d' = s.drawn := m.drawn
          have z3 : os' = s.os := m.os
          subst z1; subst z2; subst z3
          show wpAny _ _ _ _ _ _
          refine wpAny_pure ?_
          show wpAny _ _ (ret Value.none) _ _ _
          rw [isz] at g
          exact wpAny_pure ⟨rfl, h', tk', L, es, ep, t, rfl, H, g, old⟩
      · cases r2 with
        | error e => exact hr2
        | ok fl2 =>
          cases fl2 with
          | ret r =>
            obtain ⟨rfl, lf⟩ := hr2
            repeat (any_goals (first | assumption | wp_step))
            exact h _ lf
          | _ => exact hr2.elim
    | _ => exact hr.elim
end
end Vs

namespace Vs
open PySem PySem.Spec PyProof.Rows L2
/-- tuples of ints -/
def MT (P : Program) (w : World) : Kd P w (List Int) where
  knd := tupleKind (intKind P w)
  cls := fun hk h => ofAClass_tup hk h
  byv := fun hk h => hashBy_tup hk h
  ext := fun hk k => isT_keep hk k
  but := fun hk ho hd hs => isT_same hk ho hd hs
theorem perm_map {α β : Type} {f : α → β} {vs ws : List β} (p : vs.Perm ws) : ∀ {L : List α}, ws = L.map f → ∃ L1 : List α, vs = L1.map f ∧ L1.Perm L := by
  induction p with
  | nil => exact fun {L} e => ⟨[], rfl, by rw [List.map_eq_nil_iff.mp e.symm]⟩
  | @cons x a b _ ih =>
    intro L e
    cases L with
    | nil => cases e
    | cons y L =>
      rw [List.map_cons] at e
      injection e with e1 e2
      obtain ⟨L1, h1, h2⟩ := ih e2
      exact ⟨y :: L1, by rw [List.map_cons, h1, e1], h2.cons y⟩
  | swap x y l =>
    intro L e
    match L, e with
    | [], e => cases e
    | [_], e => cases e
    | u :: v :: L, e =>
      rw [List.map_cons, List.map_cons] at e
      injection e with e1 e2
      injection e2 with e2 e3
      exact ⟨v :: u :: L, by rw [List.map_cons, List.map_cons, e1, e2, e3], List.Perm.swap u v L⟩
  | trans _ _ ih1 ih2 =>
    intro L e
    obtain ⟨L1, h1, h2⟩ := ih2 e
    obtain ⟨L2, h3, h4⟩ := ih1 h1
    exact ⟨L2, h3, h4.trans h2⟩
theorem lt_asym : ∀ a b : List Int, a < b → ¬ b < a := fun a b h h2 => List.lt_irrefl a (List.lt_trans h h2)
theorem le_tups {β : Type} (x : β → List Int) : PySem.W.dataLe false (fun b => .tuple ((x b).map .int)) = fun p q => decide (x p ≤ x q) := by
  funext p q
  show (!PySem.W.dataLt (.tuple ((x q).map .int)) (.tuple ((x p).map .int))) = _
  rw [PySem.W.dataLt_tuple]
  show (!PySem.W.rowLt ((x q).map .int) ((x p).map .int)) = _
  rw [PySem.W.dataLt_ints]
  by_cases h : x q < x p
  · rw [decide_eq_true h, decide_eq_false fun r => List.not_lt.mpr r h]
    rfl
  · rw [decide_eq_false h, decide_eq_true (List.not_lt.mp h)]
    rfl
theorem depth_tup (k : List Int) : PyData.depth (.tuple (k.map .int)) ≤ 1 := by
  have e := PySem.W.depth_ints k
  simp only [PyData.depth]
  omega
theorem reads_ints (h : Heap) : ∀ {k : List Int} {vs : List Value} {P : Program} {w : World}, ItemsAre (intKind P w) k vs → ReadsAll h vs (k.map .int) [] := fun {k vs P w} x => by
  induction x with
  | nil => exact .nil
  | @cons k0 v ks vs h1 _ ih =>
    obtain ⟨t, rfl⟩ := Value.isInt_shape h1
    exact .cons (as := []) (bs := []) (.int k0 t) ih
section
variable {P : Program} {w : World} {A : Around} {E : Value → Shared → Prop} {s : Shared}
theorem reads_tup {h : Heap} {k : List Int} {b : Addr} (x : IsT P w h k b) : Reads h (.ref b) (.tuple (k.map .int)) [] := by
  obtain ⟨o, items, n, ho, hc, hd, hi⟩ := x
  exact .tuple ho hc hd (reads_ints h hi)
theorem each_refs {R : Value → Addr × List Int → Prop} : ∀ {L : List (Addr × List Int)}, (∀ p ∈ L, R (.ref p.1) p) → PySem.W.EachIs R (L.map fun p => Value.ref p.1) L
  | [], _ => .nil
  | p :: L, h => .cons (h p List.mem_cons_self) (each_refs fun q hq => h q (List.mem_cons_of_mem _ hq))
theorem refs_each : ∀ {vs : List Value} {L : List (Addr × List Int)}, PySem.W.EachIs (fun v p => v = Value.ref p.1) vs L → vs = L.map fun p => Value.ref p.1
  | _, _, .nil => rfl
  | _, _, .cons h t => by rw [h, refs_each t]; rfl
variable {a : Addr} {L : List (Addr × List Int)} {es : Array (Int × Value)} {ep : Nat} {t : SetTable}
/-- sorted(set) -/
theorem sorted_set_g {Q : Value → Shared → Prop} (R : Holds (MT P w) s.heap a L es ep t) (hh : A.handled = none) (ne : ∀ p ∈ L, p.2 ≠ []) (hu : A.units + 10 < cLine)
    (hQ : ∀ s' p (out : Array Value) (c : Nat) (L' : List (Addr × List Int)), (∀ b o, s.heap.get? b = some o → s'.heap.get? b = some o) → s'.gens = s.gens → s'.os = s.os → s.heap.objs.size ≤ p →
      s'.heap.get? p = some (seqObj "list" out c) → out.toList = L'.map (fun q => Value.ref q.1) → L'.Perm L → L'.Pairwise (fun q r => q.2 ≤ r.2) → Q (.ref p) s') : wpAny (model P w) A (call (.builtin "sorted") [.ref a]) Q E s := by
  obtain ⟨o, ho, hex, hd⟩ := R.ob
  have few := R.few
  have en := R.es_len
  refine Calls.call_function_entry kind_sorted plain_sorted entry_sorted (args_sorted1 _) ?_
  unfold Builtin.«sorted»
  refine wpAny_bind (m := checkCount "sorted" 1 1 _) (wpAny_pure ?_)
  refine wpAny_bind (collect_set (A := A.in1) hh ⟨o, ho, hex.1, hd⟩ R.fits (by unfold scanBound; omega) R.tab.up R.ld fun s1 vs keep hz g1 o1 pm => ?_)
  obtain ⟨L1, rfl, p1⟩ := perm_map (f := fun q : Addr × List Int => Value.ref q.1) pm (L := L) (by
    rw [R.rows, List.map_map]
    rfl)
  have n1 : L1.length = L.length := p1.length_eq
  refine wpAny_bind (wpAny_newList ?_ (by rw [List.length_map, sizeLine_eq]; omega))
  generalize hvs : L1.map (fun q : Addr × List Int => Value.ref q.1) = vs
  have hoL : (s1.heap.push (seqObj "list" vs.toArray 0)).get? s1.heap.objs.size = some (seqObj "list" vs.toArray 0) := Heap.get?_push_size _ rfl
  have rd : ∀ q ∈ L1, Reads (s1.heap.push (seqObj "list" vs.toArray 0)) (.ref q.1) (.tuple (q.2.map .int)) [] := fun q hq =>
    reads_tup (P := P) (w := w) (isT_keep (R.mem q (p1.mem_iff.mp hq)) fun b u e => Heap.get?_push_of_some _ (keep b u e))
  have key : ∀ R : Value → Addr × List Int → Prop, (∀ p ∈ L1, R (.ref p.1) p) → PySem.W.EachIs R vs L1 := fun R h => by
    rw [← hvs]
    exact each_refs h
  have nn : ∀ q ∈ L1, q.2 ≠ [] := fun q hq => ne q (p1.mem_iff.mp hq)
  refine wpAny_bind (wpAny_holding (PySem.W.list_sort_data (s := { s1 with heap := s1.heap.push (seqObj "list" vs.toArray 0) }) (bs := L1) (enc := fun q => .tuple (q.2.map .int)) (R := fun v q => v = Value.ref q.1) hoL
    (key _ fun _ _ => rfl) (key _ fun q hq => ⟨[], rd q hq, fun z => (by cases z)⟩) (PySem.W.AllAlike.of fun p q => (by simp [PySem.W.alike, PySem.W.alike_ints]))
    (.inl fun d hd => ?srt) (by rw [n1, sizeLine_eq]; omega) (fun q _ => ?dp) fun out ol oe => ?_))
  case srt =>
    obtain ⟨q, hq, rfl⟩ := List.mem_map.mp hd
    cases e : q.2 with
    | nil => exact absurd e (nn q hq)
    | cons x r => exact ⟨.int x, r.map .int, by simp [e]⟩
  case dp =>
    have := depth_tup q.2
    have : A.in1.units ≤ A.units + 1 := by simp [Around.in1]
    omega
  rw [le_tups (fun q : Addr × List Int => q.2)] at oe
  obtain ⟨c, hc⟩ := sortedHeap_at (vs := vs) (out := out.toArray) hoL
  have eo := refs_each oe
  have pL := (List.mergeSort_perm L1 fun p q => decide (p.2 ≤ q.2)).trans p1
  have pw := List.pairwise_mergeSort (le := fun p q : Addr × List Int => decide (p.2 ≤ q.2)) (fun x y z h1 h2 => decide_eq_true (List.le_trans (of_decide_eq_true h1) (of_decide_eq_true h2)))
    (fun x y => by
      rw [Bool.or_eq_true, decide_eq_true_eq, decide_eq_true_eq]
      exact List.le_total x.2 y.2) L1
  refine wpAny_pure ⟨_, rfl, hQ _ s1.heap.objs.size out.toArray c _ (fun b u e => ?_) g1 o1 hz hc eo pL (pw.imp fun h => of_decide_eq_true h)⟩
  have q := keep b u e
  have lt := Heap.lt_size q
  show (sortedHeap (s1.heap.push (seqObj "list" vs.toArray 0)) s1.heap.objs.size vs out.toArray).get? b = some u
  rw [sortedHeap_old (Nat.ne_of_lt lt) (by rw [size_push']; exact Nat.lt_succ_of_lt lt)]
  exact Heap.get?_push_of_some _ q
end
end Vs

namespace Vs
open PySem PySem.Spec PyProof.Rows L2
/-- the set at a, without its tuples -/
def Bare (P : Program) (w : World) (h : Heap) (a : Addr) (L : List (Addr × List Int)) : Prop := ∃ (es : Array (Int × Value)) (ep : Nat) (t : SetTable), (∃ o, h.get? a = some o ∧ o.ExactSet ∧ o.data = .set es ep t) ∧ es.toList = L.map (MT P w).row ∧
  Tab t (L.map fun p => (MT P w).hv p.2) ∧ (L.map (·.2)).Nodup ∧ t.plain = true ∧ (w.params.followText "set-order" = true ∨ t.led = true) ∧ L.length * 5 < t.mask * 3 ∧ L.length ≤ 1000 ∧ t.mask ≤ 8191
def SetH (P : Program) (w : World) (a : Addr) (L : List (Addr × List Int)) : HO := .ext fun h => Bare P w h a L
theorem Bare.ok {P : Program} {w : World} {H : Hp} {h : Heap} {a : Addr} {L : List (Addr × List Int)} (R : Bare P w h a L) : ObjOk P w H h a (SetH P w a L) := by
  obtain ⟨es, ep, t, ⟨o, ho, r⟩, q⟩ := id R
  refine ⟨R, ⟨o, ho⟩, fun h1 h2 p k => ?_⟩
  obtain ⟨es', ep', t', ⟨o', ho', r'⟩, q'⟩ := show Bare P w h1 a L from p
  exact ⟨es', ep', t', ⟨o', k o' ho', r'⟩, q'⟩
section
variable {X : Cx}
theorem tups_refs : ∀ {ks : List (Addr × List Int)} {us : List Value}, Vals (ks.map fun p => V.ref p.1) us → us = ks.map fun p => Value.ref p.1 := fun h => refs_of_vals h
/-- set(xs), xs a list of tuples of ints -/
def rSetG (K : PySem.W.Frag) (P : Program) (w : World) : List V → Hp → VK → Prop := fun xs H Q => ∃ (l : Addr) (ks : List (Addr × List Int)), xs = [V.ref l] ∧ SqL K H l (ks.map fun p => V.ref p.1) ∧ (∀ p ∈ ks, SqT K H p.1 (p.2.map V.int)) ∧ ks.length ≤ 1000 ∧
  ∀ a L, H a = none → (∀ p ∈ L, p ∈ ks) → (∀ p ∈ ks, p.2 ∈ L.map (·.2)) → (L.map (·.2)).Nodup → Q (.ref a) (upd H a (SetH P w a L))
theorem cr_setG (hc : X.calm = true) (hu : X.A.units + 64 < cLine) : CallR X (.type "set") (rSetG X.K X.prog X.w) := by
  intro pins s σ H xs us Q I r h
  obtain ⟨l, ks, rfl, hl, hk, few, q⟩ := h
  rw [Vals.ref1 r]
  obtain ⟨its, rv, pl, hz⟩ := I.list hl
  have fresh : H s.heap.objs.size = none := I.hok.fresh (Nat.le_refl _)
  refine call_set_g (M := MT X.prog X.w) ks (I.ok.hd hc) pl.isList (by simpa using refs_of_vals rv) (fun p hp => I.isT (hk p hp)) few (fun B hB => by show B.units < cLine; omega) fun s2 lf => ?_
  obtain ⟨h', tk, L, es, ep, t, rfl, R, g, keep⟩ := lf
  refine ⟨.ref s.heap.objs.size, upd H s.heap.objs.size (SetH X.prog X.w s.heap.objs.size L), I.laid (t' := tk) keep (Nat.le_refl _) (Bare.ok ⟨es, ep, t, R.ob, R.rows, R.tab, R.nd, R.pl, R.ld, R.room, R.few, R.small⟩), rfl, q _ L fresh g.sub (fun p hp => ?_) R.nd⟩
  obtain ⟨j, hj, e⟩ := List.getElem_of_mem hp
  exact g.all j hj p (by rw [List.getElem?_eq_getElem hj, e])
/-- sorted(set) -/
def rSortG (K : PySem.W.Frag) (P : Program) (w : World) : List V → Hp → VK → Prop := fun vs H Q => ∃ (a : Addr) (L : List (Addr × List Int)), vs = [V.ref a] ∧ H a = some (SetH P w a L) ∧ (∀ p ∈ L, SqT K H p.1 (p.2.map V.int)) ∧ (∀ p ∈ L, p.2 ≠ []) ∧
  ∀ (L' : List (Addr × List Int)) (p : Addr), L'.Perm L → L'.Pairwise (fun q r => q.2 ≤ r.2) → H p = none → Q (.ref p) (upd H p (.lst (L'.map fun q => V.ref q.1)))
theorem cr_sortG (hc : X.calm = true) (hu : X.A.units + 64 < cLine) : CallR X (.builtin "sorted") (rSortG X.K X.prog X.w) := by
  intro pins s σ H vs us Q I r h
  obtain ⟨a, L, rfl, ha, hk, ne, q⟩ := h
  obtain ⟨es, ep, t, ob, rows, tab, nd, pl, ld, room, few, small⟩ : Bare X.prog X.w s.heap a L := (I.hok a _ ha).1
  rw [Vals.ref1 r]
  refine sorted_set_g (P := X.prog) (w := X.w) (L := L) ⟨ob, rows, tab, nd, fun p hp => I.isT (hk p hp), pl, ld, room, few, small⟩ (I.ok.hd hc) ne (by omega) fun s' p out c L' keep g o hp hg hout pm pw => ?_
  have len : (L'.map fun q => V.ref q.1).length ≤ sizeLine := by rw [List.length_map, pm.length_eq, sizeLine_eq]; omega
  have fresh : H p = none := I.hok.fresh hp
  have hv : Vals (L'.map fun q => V.ref q.1) out.toList := by rw [hout]; exact vals_of_refs L'
  have J : Inv X pins σ (upd H p (.lst (L'.map fun q => V.ref q.1))) { s with heap := s'.heap, gens := s'.gens, drawn := s'.drawn, toks := s'.toks } :=
    I.call (ch := []) (Un.laid keep hp fresh) (I.hok.laid keep hp ⟨len, out.toList, c, hv, hg⟩) (by rw [g]; exact I.bare) (fun _ z => nomatch z)
  have e : s' = { s with heap := s'.heap, gens := s'.gens, drawn := s'.drawn, toks := s'.toks } := by
    cases s'
    cases s
    cases o
    rfl
  rw [e]
  exact ⟨.ref p, _, J, rfl, q L' p pm pw fresh⟩
end
end Vs
namespace Vl
open PySem PySem.Spec PyProof.Rows L2
/-! ### sorted(set(xs)) of a list of tuples of ints -/
def rowsI : List D → Option (List (List Int))
  | [] => some []
  | .tup l :: r => (intsD l).bind fun ns => (rowsI r).map (ns :: ·)
  | _ :: _ => none
def insU (x : List Int) : List (List Int) → List (List Int)
  | [] => [x]
  | y :: r => if x < y then x :: y :: r else if x = y then y :: r else y :: insU x r
def srtU (l : List (List Int)) : List (List Int) := l.foldr insU []
theorem mem_insU (x z : List Int) : ∀ l, z ∈ insU x l ↔ z = x ∨ z ∈ l
  | [] => by simp [insU]
  | y :: r => by
    unfold insU
    split
    · simp
    · split
      · rename_i e
        subst e
        simp
      · rw [List.mem_cons, mem_insU x z r, List.mem_cons]
        constructor <;> (intro h; rcases h with h | h | h <;> simp [h])
theorem mem_srtU (z : List Int) : ∀ l, z ∈ srtU l ↔ z ∈ l
  | [] => by simp [srtU]
  | x :: r => by
    show z ∈ insU x (srtU r) ↔ _
    rw [mem_insU, mem_srtU z r, List.mem_cons]
theorem up_insU (x : List Int) : ∀ l, l.Pairwise (· < ·) → (insU x l).Pairwise (· < ·)
  | [], _ => by simp [insU]
  | y :: r, h => by
    have h0 := h
    rw [List.pairwise_cons] at h
    unfold insU
    split
    · rename_i c
      exact List.pairwise_cons.mpr ⟨fun z hz => by
        rcases List.mem_cons.mp hz with e | hz
        · rw [e]
          exact c
        · exact List.lt_trans c (h.1 z hz), h0⟩
    · rename_i c
      split
      · exact h0
      · rename_i e
        refine List.pairwise_cons.mpr ⟨fun z hz => ?_, up_insU x r h.2⟩
        rcases (mem_insU x z r).mp hz with q | hz
        · subst q
          rcases List.le_iff_lt_or_eq.mp (List.not_lt.mp c) with p | p
          · exact p
          · exact absurd p.symm e
        · exact h.1 z hz
theorem up_srtU : ∀ l, (srtU l).Pairwise (· < ·)
  | [] => List.Pairwise.nil
  | x :: r => up_insU x _ (up_srtU r)
theorem up_one : ∀ {l m : List (List Int)}, l.Pairwise (· < ·) → m.Pairwise (· < ·) → (∀ z, z ∈ l ↔ z ∈ m) → l = m
  | [], [], _, _, _ => rfl
  | [], y :: m, _, _, h => by have := (h y).mpr List.mem_cons_self; cases this
  | x :: l, [], _, _, h => by have := (h x).mp List.mem_cons_self; cases this
  | x :: l, y :: m, hl, hm, h => by
    rw [List.pairwise_cons] at hl hm
    have e : x = y := by
      rcases List.mem_cons.mp ((h x).mp List.mem_cons_self) with e | q
      · exact e
      · rcases List.mem_cons.mp ((h y).mpr List.mem_cons_self) with e | p
        · exact e.symm
        · exact absurd (List.lt_trans (hl.1 y p) (hm.1 x q)) (List.lt_irrefl x)
    subst e
    rw [up_one hl.2 hm.2 fun z => ?_]
    constructor
    · intro q
      rcases List.mem_cons.mp ((h z).mp (List.mem_cons_of_mem _ q)) with e | p
      · subst e
        exact absurd (hl.1 z q) (List.lt_irrefl z)
      · exact p
    · intro q
      rcases List.mem_cons.mp ((h z).mpr (List.mem_cons_of_mem _ q)) with e | p
      · subst e
        exact absurd (hm.1 z q) (List.lt_irrefl z)
      · exact p
def gSS : List D → Option D
  | [.lst _ ds] => (rowsI ds).bind fun rs => if (decide (rs.length ≤ 1000) && rs.all fun r => !r.isEmpty) = true then some (.lst true ((srtU rs).map fun r => .tup (r.map .int))) else none
  | _ => none
theorem Rs.rowsI {K : PySem.W.Frag} {Z : Addr → Prop} {H : Hp} : ∀ {ds : List D} {rs : List (List Int)} {vs : List V} {F : List Addr}, Rs K Z H ds vs F → rowsI ds = some rs → ∃ ks : List (Addr × List Int), vs = ks.map (fun p => V.ref p.1) ∧ (∀ p ∈ ks, R K Z H (.tup (p.2.map D.int)) (.ref p.1) []) ∧ ks.map (·.2) = rs
  | [], rs, _, _, .nil, h => by
    cases h
    exact ⟨[], rfl, fun p hp => (by cases hp), rfl⟩
  | d :: ds, rs, _, _, .cons r t, h => by
    cases d <;> try (cases h)
    rename_i l
    unfold Vl.rowsI at h
    obtain ⟨ns, h1, h⟩ := Option.bind_eq_some_iff.mp h
    obtain ⟨rs', h2, rfl⟩ := Option.map_eq_some_iff.mp h
    obtain ⟨ks, e1, e2, e3⟩ := Rs.rowsI t h2
    cases r with
    | @tup a ws _ _ ha rr =>
      have ew := rr.intsD h1
      subst ew
      refine ⟨(a, ns) :: ks, by rw [List.map_cons, e1], fun p hp => ?_, by rw [List.map_cons, e3]⟩
      rcases List.mem_cons.mp hp with e | hp
      · subst e
        exact .tup ha (rs_ints ns)
      · exact e2 p hp
theorem R.tup_sq {K : PySem.W.Frag} {Z : Addr → Prop} {H : Hp} {ns : List Int} {b : Addr} {F : List Addr} (r : R K Z H (.tup (ns.map D.int)) (.ref b) F) : SqT K H b (ns.map V.int) := by
  cases r with
  | tup ha rr =>
    have e := rr.intsV
    subst e
    first | exact ha | exact .inl (.inl ha) | exact SqT.of ha
theorem tups_back {K : PySem.W.Frag} {Z : Addr → Prop} {H : Hp} : ∀ {ks : List (Addr × List Int)}, (∀ p ∈ ks, R K Z H (.tup (p.2.map D.int)) (.ref p.1) []) → Rs K Z H (ks.map fun p => .tup (p.2.map D.int)) (ks.map fun p => V.ref p.1) []
  | [], _ => .nil
  | p :: ks, h => .cons (F := []) (G := []) (h p List.mem_cons_self) (tups_back fun q hq => h q (List.mem_cons_of_mem _ hq))
theorem cs_SS {K : PySem.W.Frag} {P : Program} {w : World} : ClS K (fun vs H Q => Vs.rSetG K P w vs H fun v H1 => Vs.rSortG K P w [v] H1 Q) gSS := fun Z H ds vs F1 d Q rs hg q => by
  unfold gSS at hg
  split at hg
  · obtain ⟨rows, h1, hg⟩ := Option.bind_eq_some_iff.mp hg
    split at hg
    · rename_i hc
      cases hg
      rw [Bool.and_eq_true, decide_eq_true_eq, List.all_eq_true] at hc
      obtain ⟨v, rfl, r⟩ := rs.one_inv
      obtain ⟨l, ws, G, rfl, hl, r2, _⟩ := r.lst_at
      obtain ⟨ks, rfl, kr, rfl⟩ := r2.rowsI h1
      refine ⟨l, ks, rfl, hl, fun p hp => (kr p hp).tup_sq, by simpa using hc.1, fun a L ha sub all nd => ?_⟩
      have k1 : Keep M0 H (upd H a (Vs.SetH P w a L)) := Keep.new ha
      refine ⟨a, L, rfl, upd_same, fun p hp => ((kr p (sub p hp)).keep0 k1).tup_sq, fun p hp => ?_, fun L' p pm pw hp => ?_⟩
      · have := hc.2 p.2 (List.mem_map_of_mem (sub p hp))
        intro e
        rw [e] at this
        cases this
      · have hp0 : H p = none := k1.back hp
        have k2 : Keep M0 (upd H a (Vs.SetH P w a L)) (upd (upd H a (Vs.SetH P w a L)) p (.lst (L'.map fun q => V.ref q.1))) := Keep.new hp
        have rr : ∀ q ∈ L', R K Z (upd (upd H a (Vs.SetH P w a L)) p (.lst (L'.map fun q => V.ref q.1))) (.tup (q.2.map D.int)) (.ref q.1) [] := fun q hq => ((kr q (sub q (pm.mem_iff.mp hq))).keep0 k1).keep0 k2
        have up : (L'.map (·.2)).Pairwise (· < ·) := by
          have n1 : (L'.map (·.2)).Nodup := (pm.map _).nodup_iff.mpr nd
          have p1 : (L'.map (·.2)).Pairwise (· ≤ ·) := List.pairwise_map.mpr pw
          refine (List.Pairwise.and p1 n1).imp fun {x y} h => ?_
          rcases List.le_iff_lt_or_eq.mp h.1 with c | c
          · exact c
          · exact absurd c h.2
        have e : L'.map (·.2) = srtU (ks.map (·.2)) := up_one up (up_srtU _) fun z => by
          rw [mem_srtU, (pm.map _).mem_iff]
          constructor
          · intro hz
            obtain ⟨u, hu, rfl⟩ := List.mem_map.mp hz
            exact List.mem_map_of_mem (sub u hu)
          · intro hz
            obtain ⟨u, hu, rfl⟩ := List.mem_map.mp hz
            exact all u hu
        have e2 : (srtU (ks.map (·.2))).map (fun r => D.tup (r.map D.int)) = L'.map fun q => .tup (q.2.map D.int) := by
          rw [← e, List.map_map]
          rfl
        rw [e2] at q
        refine q _ _ [p] (k1.tr0 k2) (.own upd_same (tups_back rr)) (by simp) fun b hb => ?_
        rw [List.mem_singleton.mp hb]
        exact hp0
    · cases hg
  · cases hg
section
variable {X : Cx} {T O : List Nat} {x : Bool} {e : Expr} {fr : M (List D)} {p1 p2 q1 q2 : Pos}
theorem pev_SS (hc : X.calm = true) (hu : X.A.units + 64 < cLine) (hg : Gl X "sorted") (hm : X.mg "sorted" = none) (hg2 : Gl X "set") (hm2 : X.mg "set" = none) (ha : PAV X T O x [e] fr)
    (he : starEach [e] X.env = (false, eval e X.env) :: starEach [] X.env := by rfl) (hpl : (backTo q2 (starEach [] X.env)).any (·.1) = false := by rfl)
    (he2 : starEach [.Call (.Name "set" p2) [e] [] q2] X.env = (false, eval (.Call (.Name "set" p2) [e] [] q2) X.env) :: starEach [] X.env := by rfl) (hpl2 : (backTo q1 (starEach [] X.env)).any (·.1) = false := by rfl) :
    PEV X T [] true (.Call (.Name "sorted" p1) [.Call (.Name "set" p2) [e] [] q2] [] q1) (fCl gSS fr) :=
  PE.imp (pe_callB (Vs.cr_sortG hc hu) hg hm (by rfl) (pa_cons (pe_callTy (Vs.cr_setG hc hu) hg2 hm2 (by rfl) ha (by decide) (by decide) he hpl) pa_nil he2) (by decide) (by decide) he2 hpl2) fun _ _ _ h => tv_cl cs_SS h
end
end Vl

namespace Vs
open PySem PySem.Spec PyProof.Rows L2
section
variable {P : Program} {w : World} {A : Around} {E : Value → Shared → Prop} {s : Shared} {β : Type}
theorem eachOf {R : Value → β → Prop} (val : β → Value) : ∀ {L : List β}, (∀ p ∈ L, R (val p) p) → PySem.W.EachIs R (L.map val) L
  | [], _ => .nil
  | p :: L, h => .cons (h p List.mem_cons_self) (eachOf val fun q hq => h q (List.mem_cons_of_mem _ hq))
theorem ofEach (val : β → Value) : ∀ {vs : List Value} {L : List β}, PySem.W.EachIs (fun v p => v = val p) vs L → vs = L.map val
  | _, _, .nil => rfl
  | _, _, .cons h t => by rw [h, ofEach val t]; rfl
/-- sorted of a list or a tuple of things that read as data -/
theorem sorted_seq (val : β → Value) (enc : β → PyData) {it : Addr} {T : String} {o : Obj} {items : Array Value} {n : Nat} (hT : T = "list" ∨ T = "tuple") (ho : s.heap.get? it = some o) (hc : o.cls = .type T) (hd : o.data = .seq items n)
    {L : List β} (e : items.toList = L.map val) (rd : ∀ b ∈ L, ∀ h', (∀ c o, s.heap.get? c = some o → h'.get? c = some o) → Reads h' (val b) (enc b) []) (al : ∀ b b', PySem.W.alike (enc b) (enc b') = true) (so : PySem.W.Sortable (L.map enc))
    (few : L.length ≤ 100000) (dep : ∀ b, (enc b).depth ≤ 4) (hu : A.units + 10 < cLine) {Q : Value → Shared → Prop}
    (hQ : ∀ (h1 h' : Heap) (out : Array Value) (c : Nat), (∀ b o, s.heap.get? b = some o → h1.get? b = some o) → (∀ b o, s.heap.get? b = some o → h'.get? b = some o) →
      h'.get? h1.objs.size = some (seqObj "list" out c) → out.toList = (L.mergeSort (PySem.W.dataLe false enc)).map val → Q (.ref h1.objs.size) { s with heap := h' }) : wpAny (model P w) A (call (.builtin "sorted") [.ref it]) Q E s := by
  have isz : items.size = L.length := by rw [← Array.length_toList, e, List.length_map]
  refine Calls.call_function_entry kind_sorted plain_sorted entry_sorted (args_sorted1 _) ?_
  unfold Builtin.«sorted»
  refine wpAny_bind (m := checkCount "sorted" 1 1 _) (wpAny_pure ?_)
  refine wpAny_bind (wpAny_collect_seq it hT ho hc hd (fun h1 keep => ?_) (by rw [isz, sizeLine_eq]; omega))
  refine wpAny_bind (wpAny_newList ?_ (by rw [Array.length_toList, isz, sizeLine_eq]; omega))
  generalize hvs : items.toList = vs
  have ev : vs = L.map val := hvs.symm.trans e
  have hoL : (h1.push (seqObj "list" vs.toArray 0)).get? h1.objs.size = some (seqObj "list" vs.toArray 0) := Heap.get?_push_size _ rfl
  have key : ∀ R : Value → β → Prop, (∀ p ∈ L, R (val p) p) → PySem.W.EachIs R vs L := fun R h => by
    rw [ev]
    exact eachOf val h
  refine wpAny_bind (wpAny_holding (PySem.W.list_sort_data (s := { s with heap := h1.push (seqObj "list" vs.toArray 0) }) (bs := L) (enc := enc) (R := fun v q => v = val q) hoL
    (key _ fun _ _ => rfl) (key _ fun q hq => ⟨[], rd q hq _ fun b u z => Heap.get?_push_of_some _ (keep b u z), fun z => (by cases z)⟩) (PySem.W.AllAlike.of al) so (by rw [sizeLine_eq]; omega) (fun q _ => ?dp) fun out ol oe => ?_))
  case dp =>
    have := dep q
    have : A.in1.units ≤ A.units + 1 := by simp [Around.in1]
    omega
  obtain ⟨c, hcc⟩ := sortedHeap_at (vs := vs) (out := out.toArray) hoL
  refine wpAny_pure ⟨_, rfl, hQ h1 _ out.toArray c keep (fun b u z => ?_) hcc (ofEach val oe)⟩
  have q := keep b u z
  have lt := Heap.lt_size q
  show (sortedHeap (h1.push (seqObj "list" vs.toArray 0)) h1.objs.size vs out.toArray).get? b = some u
  rw [sortedHeap_old (Nat.ne_of_lt lt) (by rw [size_push']; exact Nat.lt_succ_of_lt lt)]
  exact Heap.get?_push_of_some _ q
end
section
variable {X : Cx}
/-- sorted(xs), xs a list or a tuple of ints, or of tuples of ints -/
def rSrt (K : PySem.W.Frag) : List V → Hp → VK → Prop := fun vs H Q => ∃ a, vs = [V.ref a] ∧
  ((∃ ns : List Int, (SqL K H a (ns.map V.int) ∨ SqT K H a (ns.map V.int)) ∧ ns.length ≤ 100000 ∧ ∀ p, H p = none → ∀ ms : List Int, ms.Perm ns → ms.Pairwise (· ≤ ·) → Q (.ref p) (upd H p (.lst (ms.map V.int)))) ∨
   (∃ ks : List (Addr × List Int), (SqL K H a (ks.map fun p => V.ref p.1) ∨ SqT K H a (ks.map fun p => V.ref p.1)) ∧ (∀ p ∈ ks, SqT K H p.1 (p.2.map V.int)) ∧ (∀ p ∈ ks, p.2 ≠ []) ∧ ks.length ≤ 100000 ∧
     ∀ (L' : List (Addr × List Int)) (p : Addr), L'.Perm ks → L'.Pairwise (fun q r => q.2 ≤ r.2) → H p = none → Q (.ref p) (upd H p (.lst (L'.map fun q => V.ref q.1)))))
theorem ints_pairs : ∀ {ns : List Int} {us : List Value}, Vals (ns.map V.int) us → ∃ L : List (Int × Tok), us = L.map (fun p => Value.int p.1 p.2) ∧ L.map (·.1) = ns
  | [], _, .nil => ⟨[], rfl, rfl⟩
  | n :: r, _, .cons h t => by
    obtain ⟨tk, rfl⟩ := h
    obtain ⟨L, e1, e2⟩ := ints_pairs t
    exact ⟨(n, tk) :: L, by rw [e1]; rfl, by rw [← e2]; rfl⟩
theorem vals_pairs : ∀ L : List (Int × Tok), Vals ((L.map (·.1)).map V.int) (L.map fun p => Value.int p.1 p.2)
  | [] => .nil
  | p :: L => .cons ⟨p.2, rfl⟩ (vals_pairs L)
theorem done {pins : List (Addr × Obj)} {σ : L2.St} {H : Hp} {s : Shared} (I : Inv X pins σ H s) {h1 h' : Heap} {xs : List V} {out : Array Value} {c : Nat} (k1 : ∀ b o, s.heap.get? b = some o → h1.get? b = some o) (keep : ∀ b o, s.heap.get? b = some o → h'.get? b = some o)
    (hg : h'.get? h1.objs.size = some (seqObj "list" out c)) (hv : Vals xs out.toList) (len : xs.length ≤ sizeLine) {Q : VK} (q : H h1.objs.size = none → Q (.ref h1.objs.size) (upd H h1.objs.size (.lst xs))) : EP X pins σ Q (.ref h1.objs.size) { s with heap := h' } := by
  have fresh : H h1.objs.size = none := (I.hok.kept k1).fresh (Nat.le_refl _)
  have out0 : s.heap.get? h1.objs.size = none := by
    cases z : s.heap.get? h1.objs.size with
    | none => rfl
    | some o => exact absurd (Heap.lt_size (k1 _ _ z)) (Nat.lt_irrefl _)
  exact ⟨.ref _, _, I.laidN (o := .lst xs) (t' := s.toks) keep out0 fresh ⟨len, out.toList, c, hv, hg⟩, rfl, q fresh⟩
theorem seq_obj {pins : List (Addr × Obj)} {σ : L2.St} {H : Hp} {s : Shared} (I : Inv X pins σ H s) {a : Addr} {xs : List V} (h : SqL X.K H a xs ∨ SqT X.K H a xs) : ∃ (T : String) (o : Obj) (items : Array Value) (n : Nat), (T = "list" ∨ T = "tuple") ∧ s.heap.get? a = some o ∧ o.cls = .type T ∧ o.data = .seq items n ∧ Vals xs items.toList := by
  rcases h with h | h
  · obtain ⟨its, r, ⟨o, n, e, c1, c2, d⟩, _⟩ := I.list h
    exact ⟨"list", o, its.toArray, n, .inl rfl, e, c1, d, by simpa using r⟩
  · obtain ⟨its, r, ⟨o, e, c, n, d⟩, _⟩ := I.tuple h
    exact ⟨"tuple", o, its.toArray, n, .inr rfl, e, c, d, by simpa using r⟩
theorem cr_srt (hu : X.A.units + 64 < cLine) : CallR X (.builtin "sorted") (rSrt X.K) := by
  intro pins s σ H vs us Q I r h
  obtain ⟨a, rfl, h⟩ := h
  rw [Vals.ref1 r]
  rcases h with ⟨ns, hs, few, q⟩ | ⟨ks, hs, hk, ne, few, q⟩
  · obtain ⟨T, o, items, n, hT, ho, hc, hd, rv⟩ := seq_obj I hs
    obtain ⟨L, e1, e2⟩ := ints_pairs rv
    have ln : L.length = ns.length := by rw [← e2, List.length_map]
    refine sorted_seq (L := L) (fun p : Int × Tok => Value.int p.1 p.2) (fun p => .int p.1) hT ho hc hd e1 (fun b _ h' _ => .int _ _) (fun _ _ => rfl) (.inr fun d hd => ?_) (by omega) (fun _ => by simp [PyData.depth]) (by omega) fun h1 h' out c k1 keep hg he => ?_
    · obtain ⟨b, _, rfl⟩ := List.mem_map.mp hd
      exact ⟨fun z => (nomatch z), fun xs z => (nomatch z)⟩
    · rw [PySem.W.dataLe_int (fun p : Int × Tok => p.1)] at he
      have pm := List.mergeSort_perm L fun p q => decide (p.1 ≤ q.1)
      have pw := List.pairwise_mergeSort (le := fun p q : Int × Tok => decide (p.1 ≤ q.1)) (fun x y z h1 h2 => decide_eq_true (Int.le_trans (of_decide_eq_true h1) (of_decide_eq_true h2))) (fun x y => by simp; omega) L
      refine done I (xs := ((L.mergeSort fun p q => decide (p.1 ≤ q.1)).map (·.1)).map V.int) k1 keep hg (by rw [he]; exact vals_pairs _) (by rw [List.length_map, List.length_map, pm.length_eq, sizeLine_eq]; omega) fun hn => q _ hn _ (by rw [← e2]; exact pm.map _) (List.pairwise_map.mpr (pw.imp fun h => of_decide_eq_true h))
  · obtain ⟨T, o, items, n, hT, ho, hc, hd, rv⟩ := seq_obj I hs
    have e1 := refs_of_vals rv
    refine sorted_seq (L := ks) (fun p : Addr × List Int => Value.ref p.1) (fun p => .tuple (p.2.map .int)) hT ho hc hd e1 (fun b hb h' k => ?_) (fun p q => (by simp [PySem.W.alike, PySem.W.alike_ints])) (.inl fun d hd => ?_) few (fun p => by have := depth_tup p.2; omega) (by omega) fun h1 h' out c k1 keep hg he => ?_
    · exact reads_tup (P := X.prog) (w := X.w) (isT_keep (I.isT (hk b hb)) k)
    · obtain ⟨q, hq, rfl⟩ := List.mem_map.mp hd
      cases e : q.2 with
      | nil => exact absurd e (ne q hq)
      | cons x r => exact ⟨.int x, r.map .int, by simp [e]⟩
    · rw [le_tups (fun q : Addr × List Int => q.2)] at he
      have pm := List.mergeSort_perm ks fun p q => decide (p.2 ≤ q.2)
      have pw := List.pairwise_mergeSort (le := fun p q : Addr × List Int => decide (p.2 ≤ q.2)) (fun x y z h1 h2 => decide_eq_true (List.le_trans (of_decide_eq_true h1) (of_decide_eq_true h2)))
        (fun x y => by
          rw [Bool.or_eq_true, decide_eq_true_eq, decide_eq_true_eq]
          exact List.le_total x.2 y.2) ks
      exact done I k1 keep hg (by rw [he]; exact vals_of_refs _) (by rw [List.length_map, pm.length_eq, sizeLine_eq]; omega) fun hn => q _ _ pm (pw.imp fun h => of_decide_eq_true h) hn
end
end Vs
namespace Vl
open PySem PySem.Spec PyProof.Rows L2
def insR (x : List Int) : List (List Int) → List (List Int)
  | [] => [x]
  | y :: r => if x ≤ y then x :: y :: r else y :: insR x r
def srtR (l : List (List Int)) : List (List Int) := l.foldr insR []
theorem insR_perm (x : List Int) : ∀ l, (insR x l).Perm (x :: l)
  | [] => List.Perm.refl _
  | y :: r => by
    unfold insR
    split
    · exact List.Perm.refl _
    · exact ((insR_perm x r).cons y).trans (List.Perm.swap x y r)
theorem srtR_perm : ∀ l, (srtR l).Perm l
  | [] => List.Perm.refl _
  | x :: r => (insR_perm x (srtR r)).trans ((srtR_perm r).cons x)
theorem insR_up (x : List Int) : ∀ l, l.Pairwise (· ≤ ·) → (insR x l).Pairwise (· ≤ ·)
  | [], _ => by simp [insR]
  | y :: r, h => by
    have h0 := h
    rw [List.pairwise_cons] at h
    unfold insR
    split
    · rename_i c
      refine List.pairwise_cons.mpr ⟨fun z hz => ?_, h0⟩
      rcases List.mem_cons.mp hz with e | hz
      · rw [e]
        exact c
      · exact List.le_trans c (h.1 z hz)
    · rename_i c
      refine List.pairwise_cons.mpr ⟨fun z hz => ?_, insR_up x r h.2⟩
      rcases List.mem_cons.mp ((insR_perm x r).mem_iff.mp hz) with e | hz
      · rw [e]
        exact (List.le_total x y).resolve_left c
      · exact h.1 z hz
theorem srtR_up : ∀ l, (srtR l).Pairwise (· ≤ ·)
  | [] => List.Pairwise.nil
  | x :: r => insR_up x _ (srtR_up r)
theorem rows_one : ∀ {l m : List (List Int)}, l.Perm m → l.Pairwise (· ≤ ·) → m.Pairwise (· ≤ ·) → l = m
  | [], m, p, _, _ => (List.Perm.nil_eq p)
  | x :: l, [], p, _, _ => by cases p.symm.nil_eq
  | x :: l, y :: m, p, hl, hm => by
    rw [List.pairwise_cons] at hl hm
    have e : x = y := by
      rcases List.mem_cons.mp (p.mem_iff.mp List.mem_cons_self) with e | q
      · exact e
      · rcases List.mem_cons.mp (p.mem_iff.mpr List.mem_cons_self) with e | r
        · exact e.symm
        · exact List.le_antisymm (hl.1 y r) (hm.1 x q)
    subst e
    rw [rows_one ((List.perm_cons x).mp p) hl.2 hm.2]
def gSrt : List D → Option D
  | [d] => (itemsOf d).bind fun l => match ints? l with
    | some ns => if ns.length ≤ 100000 then some (.lst true ((srtI ns).map D.int)) else none
    | none => (rowsI l).bind fun rs => if (decide (rs.length ≤ 100000) && rs.all fun r => !r.isEmpty) = true then some (.lst true ((srtR rs).map fun r => .tup (r.map .int))) else none
  | _ => none
theorem cs_srt {K : PySem.W.Frag} : ClS K (Vs.rSrt K) gSrt := fun Z H ds vs F1 d Q rs hg q => by
  unfold gSrt at hg
  split at hg
  · obtain ⟨l, h1, hg⟩ := Option.bind_eq_some_iff.mp hg
    obtain ⟨v, rfl, r⟩ := rs.one_inv
    obtain ⟨a, ws, rfl, hs, r2⟩ := itemsOf_any h1 r
    split at hg
    · rename_i ns hi
      split at hg
      · rename_i hl
        cases hg
        rw [ints?_of hi] at r2
        have ew := r2.intsV
        subst ew
        refine ⟨a, rfl, .inl ⟨ns, hs, hl, fun p hn ms pm pw => ?_⟩⟩
        have e : ms = srtI ns := sorted_one (pm.trans (srtI_perm ns).symm) pw (srtI_sorted ns)
        subst e
        exact new_list hn (Rs.ints _) q
      · cases hg
    · obtain ⟨rows, h2, hg⟩ := Option.bind_eq_some_iff.mp hg
      split at hg
      · rename_i hc
        cases hg
        rw [Bool.and_eq_true, decide_eq_true_eq, List.all_eq_true] at hc
        obtain ⟨ks, rfl, kr, rfl⟩ := r2.rowsI h2
        refine ⟨a, rfl, .inr ⟨ks, hs, fun p hp => (kr p hp).tup_sq, fun p hp e => ?_, by simpa using hc.1, fun L' p pm pw hn => ?_⟩⟩
        · have := hc.2 p.2 (List.mem_map_of_mem hp)
          rw [e] at this
          cases this
        · have e : L'.map (·.2) = srtR (ks.map (·.2)) := rows_one ((pm.map _).trans (srtR_perm _).symm) (List.pairwise_map.mpr pw) (srtR_up _)
          have e2 : (srtR (ks.map (·.2))).map (fun r => D.tup (r.map D.int)) = L'.map fun q => .tup (q.2.map D.int) := by
            rw [← e, List.map_map]
            rfl
          rw [e2] at q
          exact new_list hn (tups_back fun p hp => kr p (pm.mem_iff.mp hp)) q
      · cases hg
  · cases hg
end Vl

namespace Vl
open PySem PySem.Spec PyProof.Rows L2
/-! ### zip of two lists -/
def zipD : List D → List D → List D
  | x :: r, y :: s => .tup [x, y] :: zipD r s
  | _, _ => []
theorem zipD_length : ∀ l m : List D, (zipD l m).length = min l.length m.length
  | [], _ => by simp [zipD]
  | _ :: _, [] => by simp [zipD]
  | x :: r, y :: s => by
    show (zipD r s).length + 1 = _
    rw [zipD_length r s, List.length_cons, List.length_cons]
    omega
theorem zipD_get : ∀ (l m : List D) (i : Nat) (d : D), (zipD l m)[i]? = some d → ∃ x y, l[i]? = some x ∧ m[i]? = some y ∧ d = .tup [x, y]
  | [], _, i, d, h => by simp [zipD] at h
  | _ :: _, [], i, d, h => by simp [zipD] at h
  | x :: r, y :: s, 0, d, h => by
    simp only [zipD, List.getElem?_cons_zero, Option.some.injEq] at h
    exact ⟨x, y, rfl, rfl, h.symm⟩
  | x :: r, y :: s, i + 1, d, h => by
    simp only [zipD, List.getElem?_cons_succ] at h
    simpa using zipD_get r s i d h
def lstOf : D → Option (List D)
  | .lst _ l => if D.noOwnL l = true then some l else none
  | _ => none
def iZp (fr : M (List D)) : M (List D) := fun ρ => (fr ρ).bind fun p => match p.1 with
  | [d, e] => (lstOf d).bind fun l => (lstOf e).bind fun m => some (zipD l m, p.2)
  | _ => none
section
variable {X : Cx} {T O : List Nat} {x : Bool} {e e2 : Expr} {fr : M (List D)}
theorem lstOf_keep {K : PySem.W.Frag} {Z : Addr → Prop} {H : Hp} {d : D} {l : List D} {v : V} {F : List Addr} (h : lstOf d = some l) (r : R K Z H d v F) :
    ∃ a vs, v = .ref a ∧ SqL K H a vs ∧ l.length = vs.length ∧ ∀ (B Z2 : Addr → Prop) (H2 : Hp), Keep B H H2 → (∀ b ∈ F, ¬ B b) → (∀ b, Z b → ¬ B b) → (∀ b, Z b → Z2 b) → SqL K H2 a vs ∧ Rs K Z2 H2 l vs [] := by
  unfold lstOf at h
  split at h
  · split at h
    · rename_i hn
      cases h
      exact r.lst_keep (Z' := Z) (H' := H) hn
    · cases h
  · cases h
theorem R.nil_get {K : PySem.W.Frag} {Z : Addr → Prop} {H : Hp} {l : List D} {vs : List V} (r : Rs K Z H l vs []) {i : Nat} {d : D} {v : V} (h1 : l[i]? = some d) (h2 : vs[i]? = some v) : R K Z H d v [] := by
  obtain ⟨w, G, e1, e2, e3⟩ := r.get h1
  rw [h2] at e1
  cases e1
  have e : G = [] := by
    cases G with
    | nil => rfl
    | cons x r => exact absurd (e3 x List.mem_cons_self) (by simp)
  rw [e] at e2
  exact e2
theorem piv_zip {p pos tpos : Pos} {elts : List Expr} {kk : Nat} (hg : Gl X "zip") (hm : X.mg "zip" = none) (ha : PAV X T O x [e, e2] fr) (hs : starEach [e, e2] X.env = (false, eval e X.env) :: starEach [e2] X.env := by rfl) (hpl : (backTo pos (starEach [e2] X.env)).any (·.1) = false := by rfl) :
    PIV X T O (.Tuple elts kk tpos) (.Call (.Name "zip" p) [e, e2] [] pos) (iZp fr) := by
  refine PI.imp (pi_zip hg hm ha hs hpl) fun σ H Rk h => ?_
  obtain ⟨Z, ρ, Fs, items, ρ', rel, hf, q⟩ := h
  unfold iZp at hf
  obtain ⟨⟨ds, ρ1⟩, h1, hf⟩ := Option.bind_eq_some_iff.mp hf
  dsimp only at hf
  split at hf
  · obtain ⟨l, h2, hf⟩ := Option.bind_eq_some_iff.mp hf
    obtain ⟨m, h3, hf⟩ := Option.bind_eq_some_iff.mp hf
    cases hf
    refine ⟨Z, ρ, Fs, _, _, rel, h1, fun vs H' Z' Fs' F rel' f' w c => ?_⟩
    have w0 := w.r
    obtain ⟨v1, ws, F1, F2, ev, eF, r1, rs⟩ := Rs.uncons w0
    obtain ⟨v2, ws2, F3, F4, ev2, eF2, r2, rs2⟩ := Rs.uncons rs
    cases rs2
    subst ev2 ev
    obtain ⟨a, xs, ea, ha', la, sa⟩ := lstOf_keep h2 r1
    obtain ⟨b, ys, eb, hb', lb, sb⟩ := lstOf_keep h3 r2
    subst ea eb
    refine ⟨a, b, xs, ys, rfl, ha', hb', ?_⟩
    have wk := walk_zip (K := X.K) (a := a) (b := b) (xs := xs) (ys := ys) (n := (zipD l m).length) (by rw [zipD_length, la, lb])
    refine q _ H' Z' Fs' F _ _ rel' f' wk w.ori fun B Z2 H2 k hA hZ zz => ?_
    obtain ⟨g1, k1⟩ := sa B Z2 H2 k (fun c hc => hA c (by rw [eF]; exact List.mem_append_left _ hc)) hZ zz
    obtain ⟨g2, k2⟩ := sb B Z2 H2 k (fun c hc => hA c (by rw [eF, eF2]; exact List.mem_append_right _ (List.mem_append_left _ hc))) hZ zz
    refine ⟨⟨g1, g2⟩, fun i v h d hy hi => ?_⟩
    obtain ⟨U, y1, y2, rfl, hU, rfl, e1, e2⟩ := hy
    obtain ⟨d1, d2, i1, i2, rfl⟩ := zipD_get l m i d hi
    have t1 := R.nil_get k1 i1 e1
    have t2 := R.nil_get k2 i2 e2
    have kk : Keep M0 H2 (upd H2 U (.tup [y1, y2])) := Keep.new hU
    exact ⟨kk, .tup upd_same (.cons0 (t1.keep0 kk) (.cons0 (t2.keep0 kk) .nil))⟩
  · cases hf
end
end Vl

section
set_option maxHeartbeats 4000000
namespace G07
open PySem PySem.Spec PyProof.Rows L2 Vl
def topS (i : Nat) : Stmt := PySem.Challenge.pw_knotsooth_k07_ranks_modulo_primes.main.body.getD i (.Pass ⟨0, 0, 0, 0⟩)
abbrev sf__inverse : Stmt := topS 1
abbrev N__inverse : List Str := ["number", "prime", "one", "other", "first", "second", "count"]
theorem sc__inverse : FnScope N__inverse ["number", "prime"] (defScope sf__inverse) := ⟨rfl, rfl, rfl, by decide +kernel, rfl, by decide +kernel, by decide +kernel⟩
abbrev sf_rank_modulo : Stmt := topS 2
abbrev N_rank_modulo : List Str := ["matrix", "prime", "rows", "number", "row", "rank", "width", "column", "found", "lead", "factor", "a", "b"]
theorem sc_rank_modulo : FnScope N_rank_modulo ["matrix", "prime"] (defScope sf_rank_modulo) := ⟨rfl, rfl, rfl, by decide +kernel, rfl, by decide +kernel, by decide +kernel⟩
abbrev sf__law_state : Stmt := topS 4
abbrev N__law_state : List Str := ["script"]
theorem sc__law_state : FnScope N__law_state ["script"] (defScope sf__law_state) := ⟨rfl, rfl, rfl, by decide +kernel, rfl, by decide +kernel, by decide +kernel⟩
abbrev sf__law_draw : Stmt := topS 5
abbrev N__law_draw : List Str := ["state", "limit", "cell", "digit", "mixed"]
theorem sc__law_draw : FnScope N__law_draw ["state", "limit"] (defScope sf__law_draw) := ⟨rfl, rfl, rfl, by decide +kernel, rfl, by decide +kernel, by decide +kernel⟩
abbrev sf__law_det : Stmt := topS 6
abbrev N__law_det : List Str := ["matrix", "total", "column", "rest", "row"]
theorem sc__law_det : FnScope N__law_det ["matrix"] (defScope sf__law_det) := ⟨rfl, rfl, rfl, by decide +kernel, rfl, by decide +kernel, by decide +kernel⟩
abbrev sf__law_matrix : Stmt := topS 7
abbrev N__law_matrix : List Str := ["state", "rows", "columns", "size", "kind", "matrix", "k", "j", "number", "row"]
theorem sc__law_matrix : FnScope N__law_matrix ["state", "rows", "columns", "size"] (defScope sf__law_matrix) := ⟨rfl, rfl, rfl, by decide +kernel, rfl, by decide +kernel, by decide +kernel⟩
abbrev sf__law_is_int : Stmt := topS 8
abbrev N__law_is_int : List Str := ["value"]
theorem sc__law_is_int : FnScope N__law_is_int ["value"] (defScope sf__law_is_int) := ⟨rfl, rfl, rfl, by decide +kernel, rfl, by decide +kernel, by decide +kernel⟩
abbrev sf__law_choices : Stmt := topS 9
abbrev N__law_choices : List Str := ["count", "many", "found", "k", "one"]
theorem sc__law_choices : FnScope N__law_choices ["count", "many"] (defScope sf__law_choices) := ⟨rfl, rfl, rfl, by decide +kernel, rfl, by decide +kernel, by decide +kernel⟩
abbrev sf__law_has : Stmt := topS 10
abbrev N__law_has : List Str := ["matrix", "many", "prime", "rows", "columns", "part", "column", "row"]
theorem sc__law_has : FnScope N__law_has ["matrix", "many", "prime"] (defScope sf__law_has) := ⟨rfl, rfl, rfl, by decide +kernel, rfl, by decide +kernel, by decide +kernel⟩
abbrev sf__law_span : Stmt := topS 11
abbrev N__law_span : List Str := ["matrix", "prime", "found", "number", "row", "fresh", "one", "factor", "k"]
theorem sc__law_span : FnScope N__law_span ["matrix", "prime"] (defScope sf__law_span) := ⟨rfl, rfl, rfl, by decide +kernel, rfl, by decide +kernel, by decide +kernel⟩
abbrev sf_law : Stmt := topS 12
abbrev N_law : List Str := ["script", "state", "prime", "rows", "columns", "matrix", "told", "due", "many", "size", "k", "turned", "row"]
theorem sc_law : FnScope N_law ["script"] (defScope sf_law) := ⟨rfl, rfl, rfl, by decide +kernel, rfl, by decide +kernel, by decide +kernel⟩
def F__inverse : FD := runF 2 0 7
    (sSeq (sPar 2 3 (fCons [] ([1] ++ []) (fAli 0) (fCons [] [] (fAli 1) fNil)))
    (sSeq (sAsg (gTp 2 (gsCons (gNm 4) (gsCons (gNm 5) gsNil))) (fTup (fCons [] ([] ++ []) (fC (.int 1)) (fCons [] [] (fC (.int 0)) fNil))))
    (sSeq (sWhile (fB (fOp [3] [] gNe (fVar 3) (fC (.int 0)))) (sSeq (sSet 6 (fOp [2] [] gDiv (fVar 2) (fVar 3)))
    (sSeq (sPar 2 3 (fCons [] (([] ++ ([] ++ [])) ++ []) (fAli 3) (fCons [] [] (fOp [2] ([] ++ []) gSub (fVar 2) (fOp [6] [] gMul (fVar 6) (fVar 3))) fNil)))
    (sPar 4 5 (fCons [] (([] ++ ([] ++ [])) ++ []) (fAli 5) (fCons [] [] (fOp [4] ([] ++ []) gSub (fVar 4) (fOp [6] [] gMul (fVar 6) (fVar 5))) fNil))))))
    (sRet (fOp [4] [] gMod (fVar 4) (fVar 1))))))
def F_rank_modulo : FD := runF 2 0 13
    (sSeq (sSet 2 (fComp [4] (iSeq (fVar 0)) (gNm 4) fYes (fFz (fComp [3] (iSeq (fVar 4)) (gNm 3) fYes (fOp [3] [] gMod (fVar 3) (fVar 1))))))
    (sSeq (sSet 5 (fC (.int 0)))
    (sSeq (sSet 6 (fIf (fTr (fVar 2)) (fCl gLen (fCons [2] [] (fOp [2] [] gIxA (fVar 2) (fC (.int 0))) fNil)) (fC (.int 0))))
    (sSeq (sFor (iRg1 (fCons [6] [] (fVar 6) fNil)) (gNm 7) (sSeq (sSet 8 (fComp [4] (iRg2 (fCons [5] (([] ++ []) ++ []) (fVar 5) (fCons [] [] (fCl gLen (fCons [2] [] (fVar 2) fNil)) fNil))) (gNm 4) (fB (fOp [2] [] gNe (fOp [2] [] gIxA (fOp [2] [] gIxA (fVar 2) (fVar 4)) (fVar 7)) (fC (.int 0)))) (fVal 4)))
    (sIf (fTr (fVar 8)) (sSeq (sAsg (gTp 2 (gsCons (gSt 2 (fVar 5)) (gsCons (gSt 2 (fOp [8] [] gIxA (fVar 8) (fC (.int 0)))) gsNil))) (fTup (fCons [] (([] ++ []) ++ []) (chk (fOp [2] ([] ++ []) gIxA (fVar 2) (fOp [8] [] gIxA (fVar 8) (fC (.int 0))))) (fCons [] [] (chk (fOp [2] [] gIxA (fVar 2) (fVar 5))) fNil))))
    (sSeq (sSet 9 (fCall F__inverse (fCons [2] ([] ++ []) (fOp [2] [] gIxA (fOp [2] [] gIxA (fVar 2) (fVar 5)) (fVar 7)) (fCons [1] [] (fVar 1) fNil))))
    (sSeq (sAsg (gSt 2 (fVar 5)) (fFz (fComp [3] (iSeq (fOp [2] [] gIxA (fVar 2) (fVar 5))) (gNm 3) fYes (fOp [] [] gMod (fOp [3] [] gMul (fVar 3) (fVar 9)) (fVar 1)))))
    (sSeq (sFor (iRg1 (fCons [] [] (fCl gLen (fCons [2] [] (fVar 2) fNil)) fNil)) (gNm 4) (sSeq (sSet 10 (chk (fOp [2] [] gIxA (fOp [2] [] gIxA (fVar 2) (fVar 4)) (fVar 7))))
    (sIf (fAnd (fB (fOp [4] [] gNe (fVar 4) (fVar 5))) (fB (fOp [10] [] gNe (fVar 10) (fC (.int 0))))) (sAsg (gSt 2 (fVar 4)) (fFz (fComp [11, 12] (iZp (fCons [2] (([] ++ []) ++ []) (fOp [2] [] gIxA (fVar 2) (fVar 4)) (fCons [2] [] (fOp [2] [] gIxA (fVar 2) (fVar 5)) fNil))) (gTp 2 (gsCons (gNm 11) (gsCons (gNm 12) gsNil))) fYes (fOp [] [] gMod (fOp [11] ([] ++ []) gSub (fVar 11) (fOp [10] [] gMul (fVar 10) (fVar 12))) (fVar 1))))) sNil)))
    (sAug 5 [] gAddT (fC (.int 1))))))) sNil)))
    (sRet (fMov 5))))))
def F__law_state : FD := runF 1 0 1
    (sRet (fLst (fCons [] ([] ++ ([] ++ ([] ++ ([] ++ ([] ++ []))))) (fFz (fCl gListA (fCons [0] [] (fVar 0) fNil))) (fCons [] ([] ++ ([] ++ ([] ++ ([] ++ [])))) (fC (.int 0)) (fCons [] ([] ++ ([] ++ ([] ++ []))) (fC (.int 0)) (fCons [] ([] ++ ([] ++ [])) (fC (.int 0)) (fCons [] ([] ++ []) (fC (.bl false)) (fCons [] [] (fC (.int 500)) fNil))))))))
def F__law_draw : FD := runF 2 1 5
    (sSeq (sIf (fB (fOp [0] [] gEq (fOp [0] [] gIxA (fVar 0) (fC (.int 3))) (fC (.int 0)))) (sSeq (sIf (fB (fOp [0] (([] ++ []) ++ []) gGe (fOp [0] [] gIxA (fVar 0) (fC (.int 1))) (fCl gLen (fCons [0] [] (fOp [0] [] gIxA (fVar 0) (fC (.int 0))) fNil)))) (sRet (fC (.int 0))) sNil)
    (sSeq (sSet 2 (chk (fOp [0] ([] ++ []) gIxA (fOp [0] [] gIxA (fVar 0) (fC (.int 0))) (fOp [0] [] gIxA (fVar 0) (fC (.int 1))))))
    (sSeq (sIf (fB (fOp [2] [] gLt (fVar 2) (fC (.int 0)))) (sSet 2 (fOp [] [] gSub (fUn gNeg (fC (.int 1))) (fVar 2))) sNil)
    (sSeq (sAsg (gSt 0 (fC (.int 1))) (fOp [0] [] gAdd (fOp [0] [] gIxA (fVar 0) (fC (.int 1))) (fC (.int 1))))
    (sSeq (sAsg (gSt 0 (fC (.int 2))) (fVar 2))
    (sSeq (sAsg (gSt 0 (fC (.int 4))) (fOp [2] ([] ++ []) gGe (fVar 2) (fOp [] [] gPow (fC (.int 10)) (fC (.int 18)))))
    (sSeq (sAsg (gSt 0 (fC (.int 3))) (fC (.int 6)))
    (sIf (fTr (fOp [0] [] gIxA (fVar 0) (fC (.int 4)))) (sAsg (gSt 0 (fC (.int 3))) (fC (.int 60))) sNil)))))))) sNil)
    (sSeq (sAsg (gSt 0 (fC (.int 3))) (fOp [0] [] gSub (fOp [0] [] gIxA (fVar 0) (fC (.int 3))) (fC (.int 1))))
    (sSeq (sIf (fTr (fOp [0] [] gIxA (fVar 0) (fC (.int 4)))) (sSeq (sSet 3 (fOp [] [] gMod (fCl gInt (fCons [0] [] (fOp [0] [] gIxA (fVar 0) (fC (.int 2))) fNil)) (fVar 1)))
    (sSeq (sAsg (gSt 0 (fC (.int 2))) (fOp [0] [] gDiv (fOp [0] [] gIxA (fVar 0) (fC (.int 2))) (fVar 1)))
    (sSeq (sIf (fB (fOp [0] [] gEq (fOp [0] [] gIxA (fVar 0) (fC (.int 2))) (fC (.int 0)))) (sAsg (gSt 0 (fC (.int 3))) (fC (.int 0))) sNil)
    (sRet (fMov 3))))) sNil)
    (sSeq (sSet 4 (fOp [] [] gMod (fCl gInt (fCons [] [] (fOp [] [] gAdd (fOp [] (([] ++ []) ++ []) gAdd (fOp [0] [] gMul (fOp [0] [] gIxA (fVar 0) (fC (.int 2))) (fC (.int 48271))) (fOp [0] [] gMul (fOp [0] [] gIxA (fVar 0) (fC (.int 3))) (fC (.int 69621)))) (fC (.int 7))) fNil)) (fC (.int 2147483647))))
    (sSeq (sSet 4 (fOp [] [] gMod (fCl gInt (fCons [] [] (fOp [] ([] ++ []) gAdd (fOp [] (([] ++ []) ++ []) gAdd (fOp [4] [] gMul (fVar 4) (fVar 4)) (fOp [0] [] gMul (fOp [0] [] gIxA (fVar 0) (fC (.int 2))) (fC (.int 31)))) (fOp [0] [] gIxA (fVar 0) (fC (.int 3)))) fNil)) (fC (.int 1000003))))
    (sRet (fOp [] [] gMod (fCl gInt (fCons [4] [] (fVar 4) fNil)) (fVar 1))))))))
def F__law_det_0 : FD := runF 1 0 5 fun _ => none
def F__law_det_1 : FD := runF 1 0 5
    (sSeq (sIf (fB (fOp [] [] gEq (fCl gLen (fCons [0] [] (fVar 0) fNil)) (fC (.int 0)))) (sRet (fC (.int 1))) sNil)
    (sSeq (sSet 1 (fC (.int 0)))
    (sSeq (sFor (iRg1 (fCons [] [] (fCl gLen (fCons [0] [] (fVar 0) fNil)) fNil)) (gNm 2) (sIf (fB (fOp [0] [] gNe (fOp [0] [] gIxA (fOp [0] [] gIxA (fVar 0) (fC (.int 0))) (fVar 2)) (fC (.int 0)))) (sSeq (sSet 3 (fComp [4] (iSeq (fSl [0] ([] ++ []) (fVar 0) (oSome (fC (.int 1))) oNone)) (gNm 4) fYes (fFz (fOp [] (([] ++ (([] ++ []) ++ [])) ++ []) gAdd (fCl gListA (fCons [] [] (fSl [4] ([] ++ []) (fVar 4) oNone (oSome (fVar 2))) fNil)) (fCl gListA (fCons [] [] (fSl [4] (([] ++ []) ++ []) (fVar 4) (oSome (fOp [2] [] gAdd (fVar 2) (fC (.int 1)))) oNone) fNil))))))
    (sSet 1 (fOp [1] ((([] ++ ([] ++ (([] ++ []) ++ []))) ++ (([] ++ []) ++ [])) ++ ([] ++ [])) gAdd (fVar 1) (fOp [] ([] ++ []) gMul (fOp [] (([] ++ []) ++ []) gMul (fOp [] ([] ++ (([] ++ []) ++ [])) gSub (fC (.int 1)) (fOp [] (([] ++ []) ++ []) gMul (fC (.int 2)) (fOp [] [] gMod (fCl gInt (fCons [2] [] (fVar 2) fNil)) (fC (.int 2))))) (fOp [0] [] gIxA (fOp [0] [] gIxA (fVar 0) (fC (.int 0))) (fVar 2))) (fCall F__law_det_0 (fCons [3] [] (fVar 3) fNil)))))) sNil))
    (sRet (fMov 1)))))
def F__law_det_2 : FD := runF 1 0 5
    (sSeq (sIf (fB (fOp [] [] gEq (fCl gLen (fCons [0] [] (fVar 0) fNil)) (fC (.int 0)))) (sRet (fC (.int 1))) sNil)
    (sSeq (sSet 1 (fC (.int 0)))
    (sSeq (sFor (iRg1 (fCons [] [] (fCl gLen (fCons [0] [] (fVar 0) fNil)) fNil)) (gNm 2) (sIf (fB (fOp [0] [] gNe (fOp [0] [] gIxA (fOp [0] [] gIxA (fVar 0) (fC (.int 0))) (fVar 2)) (fC (.int 0)))) (sSeq (sSet 3 (fComp [4] (iSeq (fSl [0] ([] ++ []) (fVar 0) (oSome (fC (.int 1))) oNone)) (gNm 4) fYes (fFz (fOp [] (([] ++ (([] ++ []) ++ [])) ++ []) gAdd (fCl gListA (fCons [] [] (fSl [4] ([] ++ []) (fVar 4) oNone (oSome (fVar 2))) fNil)) (fCl gListA (fCons [] [] (fSl [4] (([] ++ []) ++ []) (fVar 4) (oSome (fOp [2] [] gAdd (fVar 2) (fC (.int 1)))) oNone) fNil))))))
    (sSet 1 (fOp [1] ((([] ++ ([] ++ (([] ++ []) ++ []))) ++ (([] ++ []) ++ [])) ++ ([] ++ [])) gAdd (fVar 1) (fOp [] ([] ++ []) gMul (fOp [] (([] ++ []) ++ []) gMul (fOp [] ([] ++ (([] ++ []) ++ [])) gSub (fC (.int 1)) (fOp [] (([] ++ []) ++ []) gMul (fC (.int 2)) (fOp [] [] gMod (fCl gInt (fCons [2] [] (fVar 2) fNil)) (fC (.int 2))))) (fOp [0] [] gIxA (fOp [0] [] gIxA (fVar 0) (fC (.int 0))) (fVar 2))) (fCall F__law_det_1 (fCons [3] [] (fVar 3) fNil)))))) sNil))
    (sRet (fMov 1)))))
def F__law_det_3 : FD := runF 1 0 5
    (sSeq (sIf (fB (fOp [] [] gEq (fCl gLen (fCons [0] [] (fVar 0) fNil)) (fC (.int 0)))) (sRet (fC (.int 1))) sNil)
    (sSeq (sSet 1 (fC (.int 0)))
    (sSeq (sFor (iRg1 (fCons [] [] (fCl gLen (fCons [0] [] (fVar 0) fNil)) fNil)) (gNm 2) (sIf (fB (fOp [0] [] gNe (fOp [0] [] gIxA (fOp [0] [] gIxA (fVar 0) (fC (.int 0))) (fVar 2)) (fC (.int 0)))) (sSeq (sSet 3 (fComp [4] (iSeq (fSl [0] ([] ++ []) (fVar 0) (oSome (fC (.int 1))) oNone)) (gNm 4) fYes (fFz (fOp [] (([] ++ (([] ++ []) ++ [])) ++ []) gAdd (fCl gListA (fCons [] [] (fSl [4] ([] ++ []) (fVar 4) oNone (oSome (fVar 2))) fNil)) (fCl gListA (fCons [] [] (fSl [4] (([] ++ []) ++ []) (fVar 4) (oSome (fOp [2] [] gAdd (fVar 2) (fC (.int 1)))) oNone) fNil))))))
    (sSet 1 (fOp [1] ((([] ++ ([] ++ (([] ++ []) ++ []))) ++ (([] ++ []) ++ [])) ++ ([] ++ [])) gAdd (fVar 1) (fOp [] ([] ++ []) gMul (fOp [] (([] ++ []) ++ []) gMul (fOp [] ([] ++ (([] ++ []) ++ [])) gSub (fC (.int 1)) (fOp [] (([] ++ []) ++ []) gMul (fC (.int 2)) (fOp [] [] gMod (fCl gInt (fCons [2] [] (fVar 2) fNil)) (fC (.int 2))))) (fOp [0] [] gIxA (fOp [0] [] gIxA (fVar 0) (fC (.int 0))) (fVar 2))) (fCall F__law_det_2 (fCons [3] [] (fVar 3) fNil)))))) sNil))
    (sRet (fMov 1)))))
def F__law_det_4 : FD := runF 1 0 5
    (sSeq (sIf (fB (fOp [] [] gEq (fCl gLen (fCons [0] [] (fVar 0) fNil)) (fC (.int 0)))) (sRet (fC (.int 1))) sNil)
    (sSeq (sSet 1 (fC (.int 0)))
    (sSeq (sFor (iRg1 (fCons [] [] (fCl gLen (fCons [0] [] (fVar 0) fNil)) fNil)) (gNm 2) (sIf (fB (fOp [0] [] gNe (fOp [0] [] gIxA (fOp [0] [] gIxA (fVar 0) (fC (.int 0))) (fVar 2)) (fC (.int 0)))) (sSeq (sSet 3 (fComp [4] (iSeq (fSl [0] ([] ++ []) (fVar 0) (oSome (fC (.int 1))) oNone)) (gNm 4) fYes (fFz (fOp [] (([] ++ (([] ++ []) ++ [])) ++ []) gAdd (fCl gListA (fCons [] [] (fSl [4] ([] ++ []) (fVar 4) oNone (oSome (fVar 2))) fNil)) (fCl gListA (fCons [] [] (fSl [4] (([] ++ []) ++ []) (fVar 4) (oSome (fOp [2] [] gAdd (fVar 2) (fC (.int 1)))) oNone) fNil))))))
    (sSet 1 (fOp [1] ((([] ++ ([] ++ (([] ++ []) ++ []))) ++ (([] ++ []) ++ [])) ++ ([] ++ [])) gAdd (fVar 1) (fOp [] ([] ++ []) gMul (fOp [] (([] ++ []) ++ []) gMul (fOp [] ([] ++ (([] ++ []) ++ [])) gSub (fC (.int 1)) (fOp [] (([] ++ []) ++ []) gMul (fC (.int 2)) (fOp [] [] gMod (fCl gInt (fCons [2] [] (fVar 2) fNil)) (fC (.int 2))))) (fOp [0] [] gIxA (fOp [0] [] gIxA (fVar 0) (fC (.int 0))) (fVar 2))) (fCall F__law_det_3 (fCons [3] [] (fVar 3) fNil)))))) sNil))
    (sRet (fMov 1)))))
def F__law_det : FD := runF 1 0 5
    (sSeq (sIf (fB (fOp [] [] gEq (fCl gLen (fCons [0] [] (fVar 0) fNil)) (fC (.int 0)))) (sRet (fC (.int 1))) sNil)
    (sSeq (sSet 1 (fC (.int 0)))
    (sSeq (sFor (iRg1 (fCons [] [] (fCl gLen (fCons [0] [] (fVar 0) fNil)) fNil)) (gNm 2) (sIf (fB (fOp [0] [] gNe (fOp [0] [] gIxA (fOp [0] [] gIxA (fVar 0) (fC (.int 0))) (fVar 2)) (fC (.int 0)))) (sSeq (sSet 3 (fComp [4] (iSeq (fSl [0] ([] ++ []) (fVar 0) (oSome (fC (.int 1))) oNone)) (gNm 4) fYes (fFz (fOp [] (([] ++ (([] ++ []) ++ [])) ++ []) gAdd (fCl gListA (fCons [] [] (fSl [4] ([] ++ []) (fVar 4) oNone (oSome (fVar 2))) fNil)) (fCl gListA (fCons [] [] (fSl [4] (([] ++ []) ++ []) (fVar 4) (oSome (fOp [2] [] gAdd (fVar 2) (fC (.int 1)))) oNone) fNil))))))
    (sSet 1 (fOp [1] ((([] ++ ([] ++ (([] ++ []) ++ []))) ++ (([] ++ []) ++ [])) ++ ([] ++ [])) gAdd (fVar 1) (fOp [] ([] ++ []) gMul (fOp [] (([] ++ []) ++ []) gMul (fOp [] ([] ++ (([] ++ []) ++ [])) gSub (fC (.int 1)) (fOp [] (([] ++ []) ++ []) gMul (fC (.int 2)) (fOp [] [] gMod (fCl gInt (fCons [2] [] (fVar 2) fNil)) (fC (.int 2))))) (fOp [0] [] gIxA (fOp [0] [] gIxA (fVar 0) (fC (.int 0))) (fVar 2))) (fCall F__law_det_4 (fCons [3] [] (fVar 3) fNil)))))) sNil))
    (sRet (fMov 1)))))
def F__law_matrix : FD := runF 4 1 10
    (sSeq (sSet 4 (fCallM F__law_draw 0 (fCons [] [] (fC (.int 4)) fNil)))
    (sSeq (sSet 5 (fLst fNil))
    (sSeq (sFor (iRg1 (fCons [1] [] (fVar 1) fNil)) (gNm 6) (sDrop (fMut 5 "list" gAppend (fCons [] [] (fFz (fComp [7] (iRg1 (fCons [2] [] (fVar 2) fNil)) (gNm 7) fYes (fOp [] [] gSub (fCallM F__law_draw 0 (fCons [] [] (fOp [] [] gAdd (fOp [] [] gMul (fC (.int 2)) (fVar 3)) (fC (.int 1))) fNil)) (fVar 3)))) fNil))))
    (sSeq (sIf (fAnd (fB (fOp [4] [] gEq (fVar 4) (fC (.int 0)))) (fB (fOp [1] [] gGt (fVar 1) (fC (.int 1))))) (sAsg (gSt 5 (fOp [1] [] gSub (fVar 1) (fC (.int 1)))) (fFz (fComp [8] (iSeq (fOp [5] [] gIxA (fVar 5) (fC (.int 0)))) (gNm 8) fYes (fOp [] [] gMul (fC (.int 2)) (fVar 8))))) sNil)
    (sSeq (sIf (fB (fOp [4] [] gEq (fVar 4) (fC (.int 1)))) (sSet 5 (fComp [9] (iSeq (fVar 5)) (gNm 9) fYes (fFz (fComp [8] (iSeq (fVar 9)) (gNm 8) fYes (fOp [] [] gMul (fC (.int 6)) (fVar 8)))))) sNil)
    (sRet (fCl gTuple (fCons [] [] (fComp [9] (iSeq (fVar 5)) (gNm 9) fYes (fCl gTuple (fCons [9] [] (fVar 9) fNil))) fNil))))))))
def F__law_is_int : FD := runF 1 0 1
    (sRet (fAndV (fIsN "int" (fVar 0)) (fNotV (fIsN "bool" (fVar 0)))))
def F__law_choices : FD := runF 2 0 5
    (sSeq (sSet 2 (fLst (fCons [] [] (fTup fNil) fNil)))
    (sSeq (sFor (iRg1 (fCons [0] [] (fVar 0) fNil)) (gNm 3) (sSet 2 (fOp [2] ([] ++ (([4] ++ ([4] ++ ((([] ++ []) ++ []) ++ ([] ++ ([] ++ []))))) ++ [4])) gAdd (fVar 2) (fComp [4] (iSeq (fVar 2)) (gNm 4) (fB (fOp [] [] gLt (fCl gLen (fCons [4] [] (fVar 4) fNil)) (fVar 1))) (fOp [4] ([] ++ []) gAdd (fVar 4) (fTup (fCons [] [] (fVal 3) fNil)))))))
    (sRet (fComp [4] (iSeq (fVar 2)) (gNm 4) (fB (fOp [] [] gEq (fCl gLen (fCons [4] [] (fVar 4) fNil)) (fVar 1))) (fVal 4)))))
def F__law_has : FD := runF 3 0 8
    (sSeq (sFor (iSeq (fCall F__law_choices (fCons [] ([] ++ []) (fCl gLen (fCons [0] [] (fVar 0) fNil)) (fCons [1] [] (fVar 1) fNil)))) (gNm 3) (sFor (iSeq (fCall F__law_choices (fCons [] ([] ++ []) (fCl gLen (fCons [0] [] (fOp [0] [] gIxA (fVar 0) (fC (.int 0))) fNil)) (fCons [1] [] (fVar 1) fNil)))) (gNm 4) (sSeq (sSet 5 (fComp [7] (iSeq (fVar 3)) (gNm 7) fYes (fFz (fComp [6] (iSeq (fVar 4)) (gNm 6) fYes (chk (fOp [0] [] gIxA (fOp [0] [] gIxA (fVar 0) (fVar 7)) (fVar 6)))))))
    (sIf (fB (fOp [] [] gNe (fOp [] [] gMod (fCl gInt (fCons [] [] (fCall F__law_det (fCons [5] [] (fVar 5) fNil)) fNil)) (fVar 2)) (fC (.int 0)))) (sRet (fC (.bl true))) sNil))))
    (sRet (fC (.bl false))))
def F__law_span : FD := runF 2 0 9
    (sSeq (sSet 2 (fLst (fCons [] [] (fCl gTuple (fCons [] [] (fComp [3] (iSeq (fOp [0] [] gIxA (fVar 0) (fC (.int 0)))) (gNm 3) fYes (fC (.int 0))) fNil)) fNil)))
    (sSeq (sFor (iSeq (fVar 0)) (gNm 4) (sSeq (sSet 5 (fLst fNil))
    (sSeq (sFor (iSeq (fVar 2)) (gNm 6) (sFor (iRg1 (fCons [1] [] (fVar 1) fNil)) (gNm 7) (sDrop (fMut 5 "list" gAppend (fCons [] [] (fCl gTuple (fCons [] [] (fComp [8] (iRg1 (fCons [] [] (fCl gLen (fCons [4] [] (fVar 4) fNil)) fNil)) (gNm 8) fYes (fOp [] [] gMod (fCl gInt (fCons [] [] (fOp [6] ([] ++ ([] ++ [])) gAdd (fOp [6] [] gIxA (fVar 6) (fVar 8)) (fOp [7] ([] ++ []) gMul (fVar 7) (fOp [4] [] gIxA (fVar 4) (fVar 8)))) fNil)) (fVar 1))) fNil)) fNil)))))
    (sSet 2 (fCl gSS (fCons [5] [] (fVar 5) fNil))))))
    (sRet (fCl gLen (fCons [2] [] (fVar 2) fNil)))))
def F_law : FD := runF 1 0 13
    (sSeq (sSet 1 (fCall F__law_state (fCons [0] [] (fVar 0) fNil)))
    (sSeq (sSet 2 (chk (fOp [] (([] ++ []) ++ [1]) gIxA (fLst (fCons [] ([] ++ ([] ++ ([] ++ ([] ++ ([] ++ []))))) (fC (.int 2)) (fCons [] ([] ++ ([] ++ ([] ++ ([] ++ [])))) (fC (.int 3)) (fCons [] ([] ++ ([] ++ ([] ++ []))) (fC (.int 5)) (fCons [] ([] ++ ([] ++ [])) (fC (.int 7)) (fCons [] ([] ++ []) (fC (.int 11)) (fCons [] [] (fC (.int 13)) fNil))))))) (fCallM F__law_draw 1 (fCons [] [] (fC (.int 6)) fNil)))))
    (sSeq (sSet 3 (fOp [] (([] ++ []) ++ [1]) gAdd (fC (.int 1)) (fCallM F__law_draw 1 (fCons [] [] (fC (.int 5)) fNil))))
    (sSeq (sSet 4 (fOp [] (([] ++ []) ++ [1]) gAdd (fC (.int 1)) (fCallM F__law_draw 1 (fCons [] [] (fC (.int 6)) fNil))))
    (sSeq (sSet 5 (fCallM F__law_matrix 1 (fCons [3] ([] ++ ((([] ++ ([] ++ (([] ++ []) ++ []))) ++ (([] ++ []) ++ [1])) ++ [])) (fVar 3) (fCons [4] ((([] ++ ([] ++ (([] ++ []) ++ []))) ++ (([] ++ []) ++ [1])) ++ []) (fVar 4) (fCons [] [] (fOp [] (([] ++ []) ++ [1]) gIxA (fLst (fCons [] ([] ++ (([] ++ []) ++ [])) (fC (.int 1)) (fCons [] (([] ++ []) ++ []) (fC (.int 6)) (fCons [] [] (fOp [] [] gPow (fC (.int 10)) (fC (.int 12))) fNil)))) (fCallM F__law_draw 1 (fCons [] [] (fC (.int 3)) fNil))) fNil)))))
    (sSeq (sSet 6 (fCall F_rank_modulo (fCons [5] ([] ++ []) (fVar 5) (fCons [2] [] (fVar 2) fNil))))
    (sSeq (sIf (fNot (fTr (fCall F__law_is_int (fCons [6] [] (fVar 6) fNil)))) (sRet (fC (.bl false))) sNil)
    (sSeq (sIf (fAnd (fB (fOp [3] [] gLt (fVar 3) (fC (.int 5)))) (fB (fOp [4] [] gLt (fVar 4) (fC (.int 5))))) (sSeq (sSet 7 (fCl gLen (fCons [] [] (fComp [8] (iRg2 (fCons [] ((([] ++ ([] ++ [])) ++ []) ++ []) (fC (.int 1)) (fCons [] [] (fOp [] [] gAdd (fCl gMinA (fCons [3] ([] ++ []) (fVar 3) (fCons [4] [] (fVar 4) fNil))) (fC (.int 1))) fNil))) (gNm 8) (fTr (fCall F__law_has (fCons [5] ([] ++ ([] ++ [])) (fVar 5) (fCons [8] ([] ++ []) (fVar 8) (fCons [2] [] (fVar 2) fNil))))) (fVal 8)) fNil)))
    (sIf (fB (fOp [6] [] gNe (fVar 6) (fVar 7))) (sRet (fC (.bl false))) sNil)) sNil)
    (sSeq (sIf (fAnd (fB (fOp [2] [] gLt (fVar 2) (fC (.int 6)))) (fB (fOp [3] [] gLt (fVar 3) (fC (.int 5))))) (sSeq (sSet 9 (fC (.int 1)))
    (sSeq (sFor (iRg1 (fCons [6] [] (fVar 6) fNil)) (gNm 10) (sSet 9 (fOp [9] [] gMul (fVar 9) (fVar 2))))
    (sIf (fB (fOp [] [] gNe (fCall F__law_span (fCons [5] ([] ++ []) (fVar 5) (fCons [2] [] (fVar 2) fNil))) (fVar 9))) (sRet (fC (.bl false))) sNil))) sNil)
    (sSeq (sSet 11 (fCl gTuple (fCons [] [] (fComp [10] (iRg1 (fCons [4] [] (fVar 4) fNil)) (gNm 10) fYes (fCl gTuple (fCons [] [] (fComp [12] (iSeq (fVar 5)) (gNm 12) fYes (chk (fOp [12] [] gIxA (fVar 12) (fVar 10)))) fNil))) fNil)))
    (sRet (fAndV (fOp [] [] gEq (fCall F_rank_modulo (fCons [11] ([] ++ []) (fVar 11) (fCons [2] [] (fVar 2) fNil))) (fVar 6)) (fOp [] [] gEq (fCall F_rank_modulo (fCons [] ([] ++ []) (fTup fNil) (fCons [2] [] (fVar 2) fNil))) (fC (.int 0)))))))))))))))
section
variable {P : Program} {w : World} {K : PySem.W.Frag} {mg : Str → Option Value} {base : Heap}
theorem ok__inverse {a : Addr} {fd : FuncData} (F : Fun K "_inverse" "_inverse" sf__inverse a fd) : FnV P w K mg base 1 a fd ["number", "prime"] 0 F__inverse := by
  refine' fnv F sc__inverse (by decide) ?hw fun cdv A outer s H E hr => ?hb
  case hb =>
    have nd := sc__inverse.nd
    have u1 := Nat.lt_of_le_of_lt (Nat.add_le_add_left (show 1 ≤ 16 * 0 + 200 by decide) _) hr.un
    have u64 := Nat.lt_of_le_of_lt (Nat.add_le_add_left (show 64 ≤ 16 * 0 + 200 by decide) _) hr.un
    have u65 := Nat.lt_of_le_of_lt (Nat.add_le_add_left (show 65 ≤ 16 * 0 + 200 by decide) _) hr.un
    exact (pssv_cons (psv_par 2 3 rfl nd (pav_consX (pev_ali 0) (pav_consX (pev_ali 1) (pav_nil (x := true)))) rfl)
    (pssv_cons (psv_asg (pev_tup (pav_consX pev_int (pav_consX pev_int (pav_nil (x := true))))) (pgv_tup rfl (pgsv_cons (pgv_name 4 nd) (pgsv_cons (pgv_name 5 nd) pgsv_nil))))
    (pssv_cons (psv_while PassesOwn.never (ptv_cmp (op_neD u64) os_ne (pev_var 3) pev_int (nomark _)) (pssv_cons (psv_set 6 nd (pev_op op_fdivL os_div (pev_var 2) (pev_var 3)))
    (pssv_cons (psv_par 2 3 rfl nd (pav_consX (pev_ali 3) (pav_consX (pev_op op_sub os_I (pev_var 2) (pev_op op_mulA os_mul (pev_var 6) (pev_var 3))) (pav_nil (x := true)))) rfl)
    (pssv_one (psv_par 4 5 rfl nd (pav_consX (pev_ali 5) (pav_consX (pev_op op_sub os_I (pev_var 4) (pev_op op_mulA os_mul (pev_var 6) (pev_var 5))) (pav_nil (x := true)))) rfl)))))
    (pssv_one (psv_ret (pev_op op_modN os_mod (pev_var 4) (pev_var 1)))))))
  case hw => decide
theorem ok_rank_modulo {a : Addr} {fd : FuncData} (F : Fun K "rank_modulo" "rank_modulo" sf_rank_modulo a fd) (z_len : mg "len" = none) (z_range : mg "range" = none) (z_zip : mg "zip" = none) {a__inverse : Addr} {fd__inverse : FuncData} (G__inverse : FnV P w K mg base 1 a__inverse fd__inverse ["number", "prime"] 0 F__inverse) (bi__inverse : Binds K fd__inverse ["number", "prime"] []) (gm__inverse : mg "_inverse" = some (.ref a__inverse)) (kp__inverse : PySem.W.keepIn K (.ref a__inverse) = true) : FnV P w K mg base 2 a fd ["matrix", "prime"] 0 F_rank_modulo := by
  refine' fnv F sc_rank_modulo (by decide) ?hw fun cdv A outer s H E hr => ?hb
  case hb =>
    have nd := sc_rank_modulo.nd
    have u1 := Nat.lt_of_le_of_lt (Nat.add_le_add_left (show 1 ≤ 16 * 1 + 200 by decide) _) hr.un
    have u64 := Nat.lt_of_le_of_lt (Nat.add_le_add_left (show 64 ≤ 16 * 1 + 200 by decide) _) hr.un
    have u65 := Nat.lt_of_le_of_lt (Nat.add_le_add_left (show 65 ≤ 16 * 1 + 200 by decide) _) hr.un
    exact (pssv_cons (psv_set 2 nd (pev_lcV (own := [("row", 4)]) [4] rfl nd (piv_seq (pev_var 0)) (blkOk_by (own := [("row", 4)]) (N := N_rank_modulo) (sc := defScope sf_rank_modulo) (by decide +kernel)) (fun _ _ _ _ _ => (pgv_name 4 nd)) (fun _ _ _ _ _ => ptsv_nil) (fun _ _ _ _ _ => (pev_frz (pev_lcV (own := [("number", 3)]) [3] rfl nd (piv_seq (pev_var 4)) (by refine blkOk_by (own := [("number", 3)]) ?_; kernel_rfl) (fun _ _ _ _ _ => (pgv_name 3 nd)) (fun _ _ _ _ _ => ptsv_nil) (fun _ _ _ _ _ => (pev_op op_modN os_mod (pev_var 3) (pev_var 1))))))))
    (pssv_cons (psv_set 5 nd pev_int)
    (pssv_cons (psv_set 6 nd (pev_ifX (ptv_tr (pev_var 2)) (pev_callB call_lenV cs_len (by rfl) z_len (by rfl) (pav_cons (pev_ixA u1 (pev_var 2) pev_int) (pav_nil (x := false)))) pev_int))
    (pssv_cons (psv_for PassesOwn.never rfl (piv_range1 (by rfl) z_range (pav_cons (pev_var 6) (pav_nil (x := false)))) (pgv_name 7 nd) (pssv_cons (psv_setLc (own := [("row", 4)]) 8 rfl nd (sw_true rfl rfl rfl (by decide +kernel)) (piv_range2 (by rfl) z_range (pav_cons (pev_var 5) (pav_cons (pev_callB call_lenV cs_len (by rfl) z_len (by rfl) (pav_cons (pev_var 2) (pav_nil (x := false)))) (pav_nil (x := false))))) (blkOk_by (own := [("row", 4)]) (N := N_rank_modulo) (sc := defScope sf_rank_modulo) (by decide +kernel)) (fun _ _ _ _ _ => (pgv_name 4 nd)) (fun _ _ _ _ _ => (ptsv_one (ptv_cmp (op_neD u64) os_ne (pev_ixA u1 (pev_ixA u1 (pev_var 2) (pev_var 4)) (pev_var 7)) pev_int (nomark _)))) (fun _ _ _ _ _ => (pev_val 4)))
    (pssv_one (psv_if (ptv_tr (pev_var 8)) (pssv_cons (psv_asg (pev_tup (pav_consX (pev_chk (pev_ixA u1 (pev_var 2) (pev_ixA u1 (pev_var 8) pev_int))) (pav_consX (pev_chk (pev_ixA u1 (pev_var 2) (pev_var 5))) (pav_nil (x := true))))) (pgv_tup rfl (pgsv_cons (pgv_sub 2 u1 (pev_var 5)) (pgsv_cons (pgv_sub 2 u1 (pev_ixA u1 (pev_var 8) pev_int)) pgsv_nil))))
    (pssv_cons (psv_set 9 nd (pev_call G__inverse runF_ok (hr.mono (by decide)) (by rfl) gm__inverse kp__inverse bi__inverse (pav_cons (pev_ixA u1 (pev_ixA u1 (pev_var 2) (pev_var 5)) (pev_var 7)) (pav_cons (pev_var 1) (pav_nil (x := false))))))
    (pssv_cons (psv_asg (pev_frz (pev_lcV (own := [("number", 3)]) [3] rfl nd (piv_seq (pev_ixA u1 (pev_var 2) (pev_var 5))) (blkOk_by (own := [("number", 3)]) (N := N_rank_modulo) (sc := defScope sf_rank_modulo) (by decide +kernel)) (fun _ _ _ _ _ => (pgv_name 3 nd)) (fun _ _ _ _ _ => ptsv_nil) (fun _ _ _ _ _ => (pev_op op_modN os_mod (pev_op op_mulA os_mul (pev_var 3) (pev_var 9)) (pev_var 1))))) (pgv_sub 2 u1 (pev_var 5)))
    (pssv_cons (psv_for PassesOwn.never rfl (piv_range1 (by rfl) z_range (pav_cons (pev_callB call_lenV cs_len (by rfl) z_len (by rfl) (pav_cons (pev_var 2) (pav_nil (x := false)))) (pav_nil (x := false)))) (pgv_name 4 nd) (pssv_cons (psv_set 10 nd (pev_chk (pev_ixA u1 (pev_ixA u1 (pev_var 2) (pev_var 4)) (pev_var 7))))
    (pssv_one (psv_if (ptv_w (pwv_and (ptv_cmp (op_neD u64) os_ne (pev_var 4) (pev_var 5) (nomark _)) (pwv_and1 (ptv_cmp (op_neD u64) os_ne (pev_var 10) pev_int (nomark _))))) (pssv_one (psv_asg (pev_frz (pev_lcV (own := [("a", 11), ("b", 12)]) [11, 12] rfl nd (piv_zip (by rfl) z_zip (pav_cons (pev_ixA u1 (pev_var 2) (pev_var 4)) (pav_cons (pev_ixA u1 (pev_var 2) (pev_var 5)) (pav_nil (x := false))))) (blkOk_by (own := [("a", 11), ("b", 12)]) (N := N_rank_modulo) (sc := defScope sf_rank_modulo) (by decide +kernel)) (fun _ _ _ _ _ => (pgv_tup rfl (pgsv_cons (pgv_name 11 nd) (pgsv_cons (pgv_name 12 nd) pgsv_nil)))) (fun _ _ _ _ _ => ptsv_nil) (fun _ _ _ _ _ => (pev_op op_modN os_mod (pev_op op_sub os_I (pev_var 11) (pev_op op_mulA os_mul (pev_var 10) (pev_var 12))) (pev_var 1))))) (pgv_sub 2 u1 (pev_var 4)))) pssv_nil))))
    (pssv_one (psv_aug 5 nd ip_addT os_addT pev_int)))))) pssv_nil))))
    (pssv_one (psv_ret (pev_mov 5)))))))
  case hw => decide
theorem ok__law_state {a : Addr} {fd : FuncData} (F : Fun K "_law_state" "_law_state" sf__law_state a fd) (z_list : mg "list" = none) : FnV P w K mg base 1 a fd ["script"] 0 F__law_state := by
  refine' fnv F sc__law_state (by decide) ?hw fun cdv A outer s H E hr => ?hb
  case hb =>
    have nd := sc__law_state.nd
    have u1 := Nat.lt_of_le_of_lt (Nat.add_le_add_left (show 1 ≤ 16 * 0 + 200 by decide) _) hr.un
    have u64 := Nat.lt_of_le_of_lt (Nat.add_le_add_left (show 64 ≤ 16 * 0 + 200 by decide) _) hr.un
    have u65 := Nat.lt_of_le_of_lt (Nat.add_le_add_left (show 65 ≤ 16 * 0 + 200 by decide) _) hr.un
    exact (pssv_one (psv_ret (pev_lst (pav_consX (pev_frz (pev_callTy (call_listA rfl) cs_listA (by rfl) z_list (by rfl) (pav_cons (pev_var 0) (pav_nil (x := false))))) (pav_consX pev_int (pav_consX pev_int (pav_consX pev_int (pav_consX pev_bl (pav_consX pev_int (pav_nil (x := true)))))))))))
  case hw => decide
theorem ok__law_draw {a : Addr} {fd : FuncData} (F : Fun K "_law_draw" "_law_draw" sf__law_draw a fd) (z_int : mg "int" = none) (z_len : mg "len" = none) : FnV P w K mg base 1 a fd ["state", "limit"] 1 F__law_draw := by
  refine' fnv F sc__law_draw (by decide) ?hw fun cdv A outer s H E hr => ?hb
  case hb =>
    have nd := sc__law_draw.nd
    have u1 := Nat.lt_of_le_of_lt (Nat.add_le_add_left (show 1 ≤ 16 * 0 + 200 by decide) _) hr.un
    have u64 := Nat.lt_of_le_of_lt (Nat.add_le_add_left (show 64 ≤ 16 * 0 + 200 by decide) _) hr.un
    have u65 := Nat.lt_of_le_of_lt (Nat.add_le_add_left (show 65 ≤ 16 * 0 + 200 by decide) _) hr.un
    exact (pssv_cons (psv_if (ptv_cmp (op_eqD u64) os_eq (pev_ixA u1 (pev_var 0) pev_int) pev_int (nomark _)) (pssv_cons (psv_if (ptv_cmp op_ge os_B (pev_ixA u1 (pev_var 0) pev_int) (pev_callB call_lenV cs_len (by rfl) z_len (by rfl) (pav_cons (pev_ixA u1 (pev_var 0) pev_int) (pav_nil (x := false)))) (nomark _)) (pssv_one (psv_ret pev_int)) pssv_nil)
    (pssv_cons (psv_set 2 nd (pev_chk (pev_ixA u1 (pev_ixA u1 (pev_var 0) pev_int) (pev_ixA u1 (pev_var 0) pev_int))))
    (pssv_cons (psv_if (ptv_cmp op_lt os_B (pev_var 2) pev_int (nomark _)) (pssv_one (psv_set 2 nd (pev_op op_sub os_I (pev_un un_neg us_neg pev_int) (pev_var 2)))) pssv_nil)
    (pssv_cons (psv_asg (pev_op op_addV os_add (pev_ixA u1 (pev_var 0) pev_int) pev_int) (pgv_sub 0 u1 pev_int))
    (pssv_cons (psv_asg (pev_var 2) (pgv_sub 0 u1 pev_int))
    (pssv_cons (psv_asg (pev_cmp op_ge os_B (pev_var 2) (pev_op op_pow os_pow pev_int pev_int) (nomark _)) (pgv_sub 0 u1 pev_int))
    (pssv_cons (psv_asg pev_int (pgv_sub 0 u1 pev_int))
    (pssv_one (psv_if (ptv_tr (pev_ixA u1 (pev_var 0) pev_int)) (pssv_one (psv_asg pev_int (pgv_sub 0 u1 pev_int))) pssv_nil))))))))) pssv_nil)
    (pssv_cons (psv_asg (pev_op op_sub os_I (pev_ixA u1 (pev_var 0) pev_int) pev_int) (pgv_sub 0 u1 pev_int))
    (pssv_cons (psv_if (ptv_tr (pev_ixA u1 (pev_var 0) pev_int)) (pssv_cons (psv_set 3 nd (pev_op op_modN os_mod (pev_callTy call_int1 cs_int (by rfl) z_int (by rfl) (pav_cons (pev_ixA u1 (pev_var 0) pev_int) (pav_nil (x := false)))) (pev_var 1)))
    (pssv_cons (psv_asg (pev_op op_fdivL os_div (pev_ixA u1 (pev_var 0) pev_int) (pev_var 1)) (pgv_sub 0 u1 pev_int))
    (pssv_cons (psv_if (ptv_cmp (op_eqD u64) os_eq (pev_ixA u1 (pev_var 0) pev_int) pev_int (nomark _)) (pssv_one (psv_asg pev_int (pgv_sub 0 u1 pev_int))) pssv_nil)
    (pssv_one (psv_ret (pev_mov 3)))))) pssv_nil)
    (pssv_cons (psv_set 4 nd (pev_op op_modN os_mod (pev_callTy call_int1 cs_int (by rfl) z_int (by rfl) (pav_cons (pev_op op_addV os_add (pev_op op_addV os_add (pev_op op_mulA os_mul (pev_ixA u1 (pev_var 0) pev_int) pev_int) (pev_op op_mulA os_mul (pev_ixA u1 (pev_var 0) pev_int) pev_int)) pev_int) (pav_nil (x := false)))) pev_int))
    (pssv_cons (psv_set 4 nd (pev_op op_modN os_mod (pev_callTy call_int1 cs_int (by rfl) z_int (by rfl) (pav_cons (pev_op op_addV os_add (pev_op op_addV os_add (pev_op op_mulA os_mul (pev_var 4) (pev_var 4)) (pev_op op_mulA os_mul (pev_ixA u1 (pev_var 0) pev_int) pev_int)) (pev_ixA u1 (pev_var 0) pev_int)) (pav_nil (x := false)))) pev_int))
    (pssv_one (psv_ret (pev_op op_modN os_mod (pev_callTy call_int1 cs_int (by rfl) z_int (by rfl) (pav_cons (pev_var 4) (pav_nil (x := false)))) (pev_var 1)))))))))
  case hw => decide
theorem ok__law_det_1 {a : Addr} {fd : FuncData} (F : Fun K "_law_det" "_law_det" sf__law_det a fd) (z_int : mg "int" = none) (z_len : mg "len" = none) (z_list : mg "list" = none) (z_range : mg "range" = none) (bi__law_det : Binds K fd ["matrix"] []) (gm__law_det : mg "_law_det" = some (.ref a)) (kp__law_det : PySem.W.keepIn K (.ref a) = true) : FnV P w K mg base 1 a fd ["matrix"] 0 F__law_det_1 := by
  have G__law_det : FnV P w K mg base 0 a fd ["matrix"] 0 F__law_det_0 := fnv_none
  refine' fnv F sc__law_det (by decide) ?hw fun cdv A outer s H E hr => ?hb
  case hb =>
    have nd := sc__law_det.nd
    have u1 := Nat.lt_of_le_of_lt (Nat.add_le_add_left (show 1 ≤ 16 * 0 + 200 by decide) _) hr.un
    have u64 := Nat.lt_of_le_of_lt (Nat.add_le_add_left (show 64 ≤ 16 * 0 + 200 by decide) _) hr.un
    have u65 := Nat.lt_of_le_of_lt (Nat.add_le_add_left (show 65 ≤ 16 * 0 + 200 by decide) _) hr.un
    exact (pssv_cons (psv_if (ptv_cmp (op_eqD u64) os_eq (pev_callB call_lenV cs_len (by rfl) z_len (by rfl) (pav_cons (pev_var 0) (pav_nil (x := false)))) pev_int (nomark _)) (pssv_one (psv_ret pev_int)) pssv_nil)
    (pssv_cons (psv_set 1 nd pev_int)
    (pssv_cons (psv_for PassesOwn.never rfl (piv_range1 (by rfl) z_range (pav_cons (pev_callB call_lenV cs_len (by rfl) z_len (by rfl) (pav_cons (pev_var 0) (pav_nil (x := false)))) (pav_nil (x := false)))) (pgv_name 2 nd) (pssv_one (psv_if (ptv_cmp (op_neD u64) os_ne (pev_ixA u1 (pev_ixA u1 (pev_var 0) pev_int) (pev_var 2)) pev_int (nomark _)) (pssv_cons (psv_setLc (own := [("row", 4)]) 3 rfl nd (sw_true rfl rfl rfl (by decide +kernel)) (piv_seq (pev_slice (pev_var 0) (pov_some pev_int) pov_none)) (blkOk_by (own := [("row", 4)]) (N := N__law_det) (sc := defScope sf__law_det) (by decide +kernel)) (fun _ _ _ _ _ => (pgv_name 4 nd)) (fun _ _ _ _ _ => ptsv_nil) (fun _ _ _ _ _ => (pev_frz (pev_op op_addV os_add (pev_callTy (call_listA rfl) cs_listA (by rfl) z_list (by rfl) (pav_cons (pev_slice (pev_var 4) pov_none (pov_some (pev_var 2))) (pav_nil (x := false)))) (pev_callTy (call_listA rfl) cs_listA (by rfl) z_list (by rfl) (pav_cons (pev_slice (pev_var 4) (pov_some (pev_op op_addV os_add (pev_var 2) pev_int)) pov_none) (pav_nil (x := false))))))))
    (pssv_one (psv_set 1 nd (pev_op op_addV os_add (pev_var 1) (pev_op op_mulA os_mul (pev_op op_mulA os_mul (pev_op op_sub os_I pev_int (pev_op op_mulA os_mul pev_int (pev_op op_modN os_mod (pev_callTy call_int1 cs_int (by rfl) z_int (by rfl) (pav_cons (pev_var 2) (pav_nil (x := false)))) pev_int))) (pev_ixA u1 (pev_ixA u1 (pev_var 0) pev_int) (pev_var 2))) (pev_call G__law_det runF_ok (hr.mono (by decide)) (by rfl) gm__law_det kp__law_det bi__law_det (pav_cons (pev_var 3) (pav_nil (x := false))))))))) pssv_nil)))
    (pssv_one (psv_ret (pev_mov 1))))))
  case hw => decide
theorem ok__law_det_2 {a : Addr} {fd : FuncData} (F : Fun K "_law_det" "_law_det" sf__law_det a fd) (z_int : mg "int" = none) (z_len : mg "len" = none) (z_list : mg "list" = none) (z_range : mg "range" = none) (bi__law_det : Binds K fd ["matrix"] []) (gm__law_det : mg "_law_det" = some (.ref a)) (kp__law_det : PySem.W.keepIn K (.ref a) = true) : FnV P w K mg base 2 a fd ["matrix"] 0 F__law_det_2 := by
  have G__law_det : FnV P w K mg base 1 a fd ["matrix"] 0 F__law_det_1 := ok__law_det_1 F z_int z_len z_list z_range bi__law_det gm__law_det kp__law_det
  refine' fnv F sc__law_det (by decide) ?hw fun cdv A outer s H E hr => ?hb
  case hb =>
    have nd := sc__law_det.nd
    have u1 := Nat.lt_of_le_of_lt (Nat.add_le_add_left (show 1 ≤ 16 * 1 + 200 by decide) _) hr.un
    have u64 := Nat.lt_of_le_of_lt (Nat.add_le_add_left (show 64 ≤ 16 * 1 + 200 by decide) _) hr.un
    have u65 := Nat.lt_of_le_of_lt (Nat.add_le_add_left (show 65 ≤ 16 * 1 + 200 by decide) _) hr.un
    exact (pssv_cons (psv_if (ptv_cmp (op_eqD u64) os_eq (pev_callB call_lenV cs_len (by rfl) z_len (by rfl) (pav_cons (pev_var 0) (pav_nil (x := false)))) pev_int (nomark _)) (pssv_one (psv_ret pev_int)) pssv_nil)
    (pssv_cons (psv_set 1 nd pev_int)
    (pssv_cons (psv_for PassesOwn.never rfl (piv_range1 (by rfl) z_range (pav_cons (pev_callB call_lenV cs_len (by rfl) z_len (by rfl) (pav_cons (pev_var 0) (pav_nil (x := false)))) (pav_nil (x := false)))) (pgv_name 2 nd) (pssv_one (psv_if (ptv_cmp (op_neD u64) os_ne (pev_ixA u1 (pev_ixA u1 (pev_var 0) pev_int) (pev_var 2)) pev_int (nomark _)) (pssv_cons (psv_setLc (own := [("row", 4)]) 3 rfl nd (sw_true rfl rfl rfl (by decide +kernel)) (piv_seq (pev_slice (pev_var 0) (pov_some pev_int) pov_none)) (blkOk_by (own := [("row", 4)]) (N := N__law_det) (sc := defScope sf__law_det) (by decide +kernel)) (fun _ _ _ _ _ => (pgv_name 4 nd)) (fun _ _ _ _ _ => ptsv_nil) (fun _ _ _ _ _ => (pev_frz (pev_op op_addV os_add (pev_callTy (call_listA rfl) cs_listA (by rfl) z_list (by rfl) (pav_cons (pev_slice (pev_var 4) pov_none (pov_some (pev_var 2))) (pav_nil (x := false)))) (pev_callTy (call_listA rfl) cs_listA (by rfl) z_list (by rfl) (pav_cons (pev_slice (pev_var 4) (pov_some (pev_op op_addV os_add (pev_var 2) pev_int)) pov_none) (pav_nil (x := false))))))))
    (pssv_one (psv_set 1 nd (pev_op op_addV os_add (pev_var 1) (pev_op op_mulA os_mul (pev_op op_mulA os_mul (pev_op op_sub os_I pev_int (pev_op op_mulA os_mul pev_int (pev_op op_modN os_mod (pev_callTy call_int1 cs_int (by rfl) z_int (by rfl) (pav_cons (pev_var 2) (pav_nil (x := false)))) pev_int))) (pev_ixA u1 (pev_ixA u1 (pev_var 0) pev_int) (pev_var 2))) (pev_call G__law_det runF_ok (hr.mono (by decide)) (by rfl) gm__law_det kp__law_det bi__law_det (pav_cons (pev_var 3) (pav_nil (x := false))))))))) pssv_nil)))
    (pssv_one (psv_ret (pev_mov 1))))))
  case hw => decide
theorem ok__law_det_3 {a : Addr} {fd : FuncData} (F : Fun K "_law_det" "_law_det" sf__law_det a fd) (z_int : mg "int" = none) (z_len : mg "len" = none) (z_list : mg "list" = none) (z_range : mg "range" = none) (bi__law_det : Binds K fd ["matrix"] []) (gm__law_det : mg "_law_det" = some (.ref a)) (kp__law_det : PySem.W.keepIn K (.ref a) = true) : FnV P w K mg base 3 a fd ["matrix"] 0 F__law_det_3 := by
  have G__law_det : FnV P w K mg base 2 a fd ["matrix"] 0 F__law_det_2 := ok__law_det_2 F z_int z_len z_list z_range bi__law_det gm__law_det kp__law_det
  refine' fnv F sc__law_det (by decide) ?hw fun cdv A outer s H E hr => ?hb
  case hb =>
    have nd := sc__law_det.nd
    have u1 := Nat.lt_of_le_of_lt (Nat.add_le_add_left (show 1 ≤ 16 * 2 + 200 by decide) _) hr.un
    have u64 := Nat.lt_of_le_of_lt (Nat.add_le_add_left (show 64 ≤ 16 * 2 + 200 by decide) _) hr.un
    have u65 := Nat.lt_of_le_of_lt (Nat.add_le_add_left (show 65 ≤ 16 * 2 + 200 by decide) _) hr.un
    exact (pssv_cons (psv_if (ptv_cmp (op_eqD u64) os_eq (pev_callB call_lenV cs_len (by rfl) z_len (by rfl) (pav_cons (pev_var 0) (pav_nil (x := false)))) pev_int (nomark _)) (pssv_one (psv_ret pev_int)) pssv_nil)
    (pssv_cons (psv_set 1 nd pev_int)
    (pssv_cons (psv_for PassesOwn.never rfl (piv_range1 (by rfl) z_range (pav_cons (pev_callB call_lenV cs_len (by rfl) z_len (by rfl) (pav_cons (pev_var 0) (pav_nil (x := false)))) (pav_nil (x := false)))) (pgv_name 2 nd) (pssv_one (psv_if (ptv_cmp (op_neD u64) os_ne (pev_ixA u1 (pev_ixA u1 (pev_var 0) pev_int) (pev_var 2)) pev_int (nomark _)) (pssv_cons (psv_setLc (own := [("row", 4)]) 3 rfl nd (sw_true rfl rfl rfl (by decide +kernel)) (piv_seq (pev_slice (pev_var 0) (pov_some pev_int) pov_none)) (blkOk_by (own := [("row", 4)]) (N := N__law_det) (sc := defScope sf__law_det) (by decide +kernel)) (fun _ _ _ _ _ => (pgv_name 4 nd)) (fun _ _ _ _ _ => ptsv_nil) (fun _ _ _ _ _ => (pev_frz (pev_op op_addV os_add (pev_callTy (call_listA rfl) cs_listA (by rfl) z_list (by rfl) (pav_cons (pev_slice (pev_var 4) pov_none (pov_some (pev_var 2))) (pav_nil (x := false)))) (pev_callTy (call_listA rfl) cs_listA (by rfl) z_list (by rfl) (pav_cons (pev_slice (pev_var 4) (pov_some (pev_op op_addV os_add (pev_var 2) pev_int)) pov_none) (pav_nil (x := false))))))))
    (pssv_one (psv_set 1 nd (pev_op op_addV os_add (pev_var 1) (pev_op op_mulA os_mul (pev_op op_mulA os_mul (pev_op op_sub os_I pev_int (pev_op op_mulA os_mul pev_int (pev_op op_modN os_mod (pev_callTy call_int1 cs_int (by rfl) z_int (by rfl) (pav_cons (pev_var 2) (pav_nil (x := false)))) pev_int))) (pev_ixA u1 (pev_ixA u1 (pev_var 0) pev_int) (pev_var 2))) (pev_call G__law_det runF_ok (hr.mono (by decide)) (by rfl) gm__law_det kp__law_det bi__law_det (pav_cons (pev_var 3) (pav_nil (x := false))))))))) pssv_nil)))
    (pssv_one (psv_ret (pev_mov 1))))))
  case hw => decide
theorem ok__law_det_4 {a : Addr} {fd : FuncData} (F : Fun K "_law_det" "_law_det" sf__law_det a fd) (z_int : mg "int" = none) (z_len : mg "len" = none) (z_list : mg "list" = none) (z_range : mg "range" = none) (bi__law_det : Binds K fd ["matrix"] []) (gm__law_det : mg "_law_det" = some (.ref a)) (kp__law_det : PySem.W.keepIn K (.ref a) = true) : FnV P w K mg base 4 a fd ["matrix"] 0 F__law_det_4 := by
  have G__law_det : FnV P w K mg base 3 a fd ["matrix"] 0 F__law_det_3 := ok__law_det_3 F z_int z_len z_list z_range bi__law_det gm__law_det kp__law_det
  refine' fnv F sc__law_det (by decide) ?hw fun cdv A outer s H E hr => ?hb
  case hb =>
    have nd := sc__law_det.nd
    have u1 := Nat.lt_of_le_of_lt (Nat.add_le_add_left (show 1 ≤ 16 * 3 + 200 by decide) _) hr.un
    have u64 := Nat.lt_of_le_of_lt (Nat.add_le_add_left (show 64 ≤ 16 * 3 + 200 by decide) _) hr.un
    have u65 := Nat.lt_of_le_of_lt (Nat.add_le_add_left (show 65 ≤ 16 * 3 + 200 by decide) _) hr.un
    exact (pssv_cons (psv_if (ptv_cmp (op_eqD u64) os_eq (pev_callB call_lenV cs_len (by rfl) z_len (by rfl) (pav_cons (pev_var 0) (pav_nil (x := false)))) pev_int (nomark _)) (pssv_one (psv_ret pev_int)) pssv_nil)
    (pssv_cons (psv_set 1 nd pev_int)
    (pssv_cons (psv_for PassesOwn.never rfl (piv_range1 (by rfl) z_range (pav_cons (pev_callB call_lenV cs_len (by rfl) z_len (by rfl) (pav_cons (pev_var 0) (pav_nil (x := false)))) (pav_nil (x := false)))) (pgv_name 2 nd) (pssv_one (psv_if (ptv_cmp (op_neD u64) os_ne (pev_ixA u1 (pev_ixA u1 (pev_var 0) pev_int) (pev_var 2)) pev_int (nomark _)) (pssv_cons (psv_setLc (own := [("row", 4)]) 3 rfl nd (sw_true rfl rfl rfl (by decide +kernel)) (piv_seq (pev_slice (pev_var 0) (pov_some pev_int) pov_none)) (blkOk_by (own := [("row", 4)]) (N := N__law_det) (sc := defScope sf__law_det) (by decide +kernel)) (fun _ _ _ _ _ => (pgv_name 4 nd)) (fun _ _ _ _ _ => ptsv_nil) (fun _ _ _ _ _ => (pev_frz (pev_op op_addV os_add (pev_callTy (call_listA rfl) cs_listA (by rfl) z_list (by rfl) (pav_cons (pev_slice (pev_var 4) pov_none (pov_some (pev_var 2))) (pav_nil (x := false)))) (pev_callTy (call_listA rfl) cs_listA (by rfl) z_list (by rfl) (pav_cons (pev_slice (pev_var 4) (pov_some (pev_op op_addV os_add (pev_var 2) pev_int)) pov_none) (pav_nil (x := false))))))))
    (pssv_one (psv_set 1 nd (pev_op op_addV os_add (pev_var 1) (pev_op op_mulA os_mul (pev_op op_mulA os_mul (pev_op op_sub os_I pev_int (pev_op op_mulA os_mul pev_int (pev_op op_modN os_mod (pev_callTy call_int1 cs_int (by rfl) z_int (by rfl) (pav_cons (pev_var 2) (pav_nil (x := false)))) pev_int))) (pev_ixA u1 (pev_ixA u1 (pev_var 0) pev_int) (pev_var 2))) (pev_call G__law_det runF_ok (hr.mono (by decide)) (by rfl) gm__law_det kp__law_det bi__law_det (pav_cons (pev_var 3) (pav_nil (x := false))))))))) pssv_nil)))
    (pssv_one (psv_ret (pev_mov 1))))))
  case hw => decide
theorem ok__law_det {a : Addr} {fd : FuncData} (F : Fun K "_law_det" "_law_det" sf__law_det a fd) (z_int : mg "int" = none) (z_len : mg "len" = none) (z_list : mg "list" = none) (z_range : mg "range" = none) (bi__law_det : Binds K fd ["matrix"] []) (gm__law_det : mg "_law_det" = some (.ref a)) (kp__law_det : PySem.W.keepIn K (.ref a) = true) : FnV P w K mg base 5 a fd ["matrix"] 0 F__law_det := by
  have G__law_det : FnV P w K mg base 4 a fd ["matrix"] 0 F__law_det_4 := ok__law_det_4 F z_int z_len z_list z_range bi__law_det gm__law_det kp__law_det
  refine' fnv F sc__law_det (by decide) ?hw fun cdv A outer s H E hr => ?hb
  case hb =>
    have nd := sc__law_det.nd
    have u1 := Nat.lt_of_le_of_lt (Nat.add_le_add_left (show 1 ≤ 16 * 4 + 200 by decide) _) hr.un
    have u64 := Nat.lt_of_le_of_lt (Nat.add_le_add_left (show 64 ≤ 16 * 4 + 200 by decide) _) hr.un
    have u65 := Nat.lt_of_le_of_lt (Nat.add_le_add_left (show 65 ≤ 16 * 4 + 200 by decide) _) hr.un
    exact (pssv_cons (psv_if (ptv_cmp (op_eqD u64) os_eq (pev_callB call_lenV cs_len (by rfl) z_len (by rfl) (pav_cons (pev_var 0) (pav_nil (x := false)))) pev_int (nomark _)) (pssv_one (psv_ret pev_int)) pssv_nil)
    (pssv_cons (psv_set 1 nd pev_int)
    (pssv_cons (psv_for PassesOwn.never rfl (piv_range1 (by rfl) z_range (pav_cons (pev_callB call_lenV cs_len (by rfl) z_len (by rfl) (pav_cons (pev_var 0) (pav_nil (x := false)))) (pav_nil (x := false)))) (pgv_name 2 nd) (pssv_one (psv_if (ptv_cmp (op_neD u64) os_ne (pev_ixA u1 (pev_ixA u1 (pev_var 0) pev_int) (pev_var 2)) pev_int (nomark _)) (pssv_cons (psv_setLc (own := [("row", 4)]) 3 rfl nd (sw_true rfl rfl rfl (by decide +kernel)) (piv_seq (pev_slice (pev_var 0) (pov_some pev_int) pov_none)) (blkOk_by (own := [("row", 4)]) (N := N__law_det) (sc := defScope sf__law_det) (by decide +kernel)) (fun _ _ _ _ _ => (pgv_name 4 nd)) (fun _ _ _ _ _ => ptsv_nil) (fun _ _ _ _ _ => (pev_frz (pev_op op_addV os_add (pev_callTy (call_listA rfl) cs_listA (by rfl) z_list (by rfl) (pav_cons (pev_slice (pev_var 4) pov_none (pov_some (pev_var 2))) (pav_nil (x := false)))) (pev_callTy (call_listA rfl) cs_listA (by rfl) z_list (by rfl) (pav_cons (pev_slice (pev_var 4) (pov_some (pev_op op_addV os_add (pev_var 2) pev_int)) pov_none) (pav_nil (x := false))))))))
    (pssv_one (psv_set 1 nd (pev_op op_addV os_add (pev_var 1) (pev_op op_mulA os_mul (pev_op op_mulA os_mul (pev_op op_sub os_I pev_int (pev_op op_mulA os_mul pev_int (pev_op op_modN os_mod (pev_callTy call_int1 cs_int (by rfl) z_int (by rfl) (pav_cons (pev_var 2) (pav_nil (x := false)))) pev_int))) (pev_ixA u1 (pev_ixA u1 (pev_var 0) pev_int) (pev_var 2))) (pev_call G__law_det runF_ok (hr.mono (by decide)) (by rfl) gm__law_det kp__law_det bi__law_det (pav_cons (pev_var 3) (pav_nil (x := false))))))))) pssv_nil)))
    (pssv_one (psv_ret (pev_mov 1))))))
  case hw => decide
theorem ok__law_matrix {a : Addr} {fd : FuncData} (F : Fun K "_law_matrix" "_law_matrix" sf__law_matrix a fd) (z_range : mg "range" = none) (z_tuple : mg "tuple" = none) {a__law_draw : Addr} {fd__law_draw : FuncData} (G__law_draw : FnV P w K mg base 1 a__law_draw fd__law_draw ["state", "limit"] 1 F__law_draw) (bi__law_draw : Binds K fd__law_draw ["state", "limit"] []) (gm__law_draw : mg "_law_draw" = some (.ref a__law_draw)) (kp__law_draw : PySem.W.keepIn K (.ref a__law_draw) = true) : FnV P w K mg base 2 a fd ["state", "rows", "columns", "size"] 1 F__law_matrix := by
  refine' fnv F sc__law_matrix (by decide) ?hw fun cdv A outer s H E hr => ?hb
  case hb =>
    have nd := sc__law_matrix.nd
    have u1 := Nat.lt_of_le_of_lt (Nat.add_le_add_left (show 1 ≤ 16 * 1 + 200 by decide) _) hr.un
    have u64 := Nat.lt_of_le_of_lt (Nat.add_le_add_left (show 64 ≤ 16 * 1 + 200 by decide) _) hr.un
    have u65 := Nat.lt_of_le_of_lt (Nat.add_le_add_left (show 65 ≤ 16 * 1 + 200 by decide) _) hr.un
    exact (pssv_cons (psv_set 4 nd (pev_callM 0 G__law_draw runF_ok (by decide) (hr.mono (by decide)) (by rfl) gm__law_draw kp__law_draw bi__law_draw (pav_cons pev_int (pav_nil (x := false)))))
    (pssv_cons (psv_set 5 nd (pev_lst (pav_nil (x := true))))
    (pssv_cons (psv_for PassesOwn.never rfl (piv_range1 (by rfl) z_range (pav_cons (pev_var 1) (pav_nil (x := false)))) (pgv_name 6 nd) (pssv_one (psv_expr (pev_bm 5 PySem.F.plainAttrs_list PySem.F.slot_list_append PySem.F.type_list_append mt_append mu_append (pav_consX (pev_frz (pev_lcV (own := [("j", 7)]) [7] rfl nd (piv_range1 (by rfl) z_range (pav_cons (pev_var 2) (pav_nil (x := false)))) (blkOk_by (own := [("j", 7)]) (N := N__law_matrix) (sc := defScope sf__law_matrix) (by decide +kernel)) (fun _ _ _ _ _ => (pgv_name 7 nd)) (fun _ _ _ _ _ => ptsv_nil) (fun _ _ _ _ _ => (pev_op op_sub os_I (pev_callM 0 G__law_draw runF_ok (by decide) (hr.mono (by decide)) (by rfl) gm__law_draw kp__law_draw bi__law_draw (pav_cons (pev_op op_addV os_add (pev_op op_mulA os_mul pev_int (pev_var 3)) pev_int) (pav_nil (x := false)))) (pev_var 3))))) (pav_nil (x := true)))))))
    (pssv_cons (psv_if (ptv_w (pwv_and (ptv_cmp (op_eqD u64) os_eq (pev_var 4) pev_int (nomark _)) (pwv_and1 (ptv_cmp op_gt os_B (pev_var 1) pev_int (nomark _))))) (pssv_one (psv_asg (pev_frz (pev_lcV (own := [("number", 8)]) [8] rfl nd (piv_seq (pev_ixA u1 (pev_var 5) pev_int)) (blkOk_by (own := [("number", 8)]) (N := N__law_matrix) (sc := defScope sf__law_matrix) (by decide +kernel)) (fun _ _ _ _ _ => (pgv_name 8 nd)) (fun _ _ _ _ _ => ptsv_nil) (fun _ _ _ _ _ => (pev_op op_mulA os_mul pev_int (pev_var 8))))) (pgv_sub 5 u1 (pev_op op_sub os_I (pev_var 1) pev_int)))) pssv_nil)
    (pssv_cons (psv_if (ptv_cmp (op_eqD u64) os_eq (pev_var 4) pev_int (nomark _)) (pssv_one (psv_setLc (own := [("row", 9)]) 5 rfl nd (sw_true rfl rfl rfl (by decide +kernel)) (piv_seq (pev_var 5)) (blkOk_by (own := [("row", 9)]) (N := N__law_matrix) (sc := defScope sf__law_matrix) (by decide +kernel)) (fun _ _ _ _ _ => (pgv_name 9 nd)) (fun _ _ _ _ _ => ptsv_nil) (fun _ _ _ _ _ => (pev_frz (pev_lcV (own := [("number", 8)]) [8] rfl nd (piv_seq (pev_var 9)) (by refine blkOk_by (own := [("number", 8)]) ?_; kernel_rfl) (fun _ _ _ _ _ => (pgv_name 8 nd)) (fun _ _ _ _ _ => ptsv_nil) (fun _ _ _ _ _ => (pev_op op_mulA os_mul pev_int (pev_var 8)))))))) pssv_nil)
    (pssv_one (psv_ret (pev_callTy call_tuple_of cs_tuple (by rfl) z_tuple (by rfl) (pav_cons (pev_lcV (own := [("row", 9)]) [9] rfl nd (piv_seq (pev_var 5)) (blkOk_by (own := [("row", 9)]) (N := N__law_matrix) (sc := defScope sf__law_matrix) (by decide +kernel)) (fun _ _ _ _ _ => (pgv_name 9 nd)) (fun _ _ _ _ _ => ptsv_nil) (fun _ _ _ _ _ => (pev_callTy call_tuple_of cs_tuple (by rfl) z_tuple (by rfl) (pav_cons (pev_var 9) (pav_nil (x := false)))))) (pav_nil (x := false)))))))))))
  case hw => decide
theorem ok__law_is_int {a : Addr} {fd : FuncData} (F : Fun K "_law_is_int" "_law_is_int" sf__law_is_int a fd) (z_bool : mg "bool" = none) (z_int : mg "int" = none) (z_isinstance : mg "isinstance" = none) : FnV P w K mg base 1 a fd ["value"] 0 F__law_is_int := by
  refine' fnv F sc__law_is_int (by decide) ?hw fun cdv A outer s H E hr => ?hb
  case hb =>
    have nd := sc__law_is_int.nd
    have u1 := Nat.lt_of_le_of_lt (Nat.add_le_add_left (show 1 ≤ 16 * 0 + 200 by decide) _) hr.un
    have u64 := Nat.lt_of_le_of_lt (Nat.add_le_add_left (show 64 ≤ 16 * 0 + 200 by decide) _) hr.un
    have u65 := Nat.lt_of_le_of_lt (Nat.add_le_add_left (show 65 ≤ 16 * 0 + 200 by decide) _) hr.un
    exact (pssv_one (psv_ret (pev_and (pev_isi "int" (by rfl) z_int (by rfl) (by rfl) z_isinstance (pev_var 0)) (pev_one (pev_not (pev_isi "bool" (by rfl) z_bool (by rfl) (by rfl) z_isinstance (pev_var 0)))))))
  case hw => decide
theorem ok__law_choices {a : Addr} {fd : FuncData} (F : Fun K "_law_choices" "_law_choices" sf__law_choices a fd) (z_len : mg "len" = none) (z_range : mg "range" = none) : FnV P w K mg base 1 a fd ["count", "many"] 0 F__law_choices := by
  refine' fnv F sc__law_choices (by decide) ?hw fun cdv A outer s H E hr => ?hb
  case hb =>
    have nd := sc__law_choices.nd
    have u1 := Nat.lt_of_le_of_lt (Nat.add_le_add_left (show 1 ≤ 16 * 0 + 200 by decide) _) hr.un
    have u64 := Nat.lt_of_le_of_lt (Nat.add_le_add_left (show 64 ≤ 16 * 0 + 200 by decide) _) hr.un
    have u65 := Nat.lt_of_le_of_lt (Nat.add_le_add_left (show 65 ≤ 16 * 0 + 200 by decide) _) hr.un
    exact (pssv_cons (psv_set 2 nd (pev_lst (pav_consX (pev_tup (pav_nil (x := true))) (pav_nil (x := true)))))
    (pssv_cons (psv_for PassesOwn.never rfl (piv_range1 (by rfl) z_range (pav_cons (pev_var 0) (pav_nil (x := false)))) (pgv_name 3 nd) (pssv_one (psv_set 2 nd (pev_op op_addV os_add (pev_var 2) (pev_lcV (own := [("one", 4)]) [4] rfl nd (piv_seq (pev_var 2)) (blkOk_by (own := [("one", 4)]) (N := N__law_choices) (sc := defScope sf__law_choices) (by decide +kernel)) (fun _ _ _ _ _ => (pgv_name 4 nd)) (fun _ _ _ _ _ => (ptsv_one (ptv_cmp op_lt os_B (pev_callB call_lenV cs_len (by rfl) z_len (by rfl) (pav_cons (pev_var 4) (pav_nil (x := false)))) (pev_var 1) (nomark _)))) (fun _ _ _ _ _ => (pev_op op_addV os_add (pev_var 4) (pev_tup (pav_consX (pev_val 3) (pav_nil (x := true)))))))))))
    (pssv_one (psv_ret (pev_lcV (own := [("one", 4)]) [4] rfl nd (piv_seq (pev_var 2)) (blkOk_by (own := [("one", 4)]) (N := N__law_choices) (sc := defScope sf__law_choices) (by decide +kernel)) (fun _ _ _ _ _ => (pgv_name 4 nd)) (fun _ _ _ _ _ => (ptsv_one (ptv_cmp (op_eqD u64) os_eq (pev_callB call_lenV cs_len (by rfl) z_len (by rfl) (pav_cons (pev_var 4) (pav_nil (x := false)))) (pev_var 1) (nomark _)))) (fun _ _ _ _ _ => (pev_val 4)))))))
  case hw => decide
theorem ok__law_has {a : Addr} {fd : FuncData} (F : Fun K "_law_has" "_law_has" sf__law_has a fd) (z_int : mg "int" = none) (z_len : mg "len" = none) {a__law_choices : Addr} {fd__law_choices : FuncData} (G__law_choices : FnV P w K mg base 1 a__law_choices fd__law_choices ["count", "many"] 0 F__law_choices) (bi__law_choices : Binds K fd__law_choices ["count", "many"] []) (gm__law_choices : mg "_law_choices" = some (.ref a__law_choices)) (kp__law_choices : PySem.W.keepIn K (.ref a__law_choices) = true) {a__law_det : Addr} {fd__law_det : FuncData} (G__law_det : FnV P w K mg base 5 a__law_det fd__law_det ["matrix"] 0 F__law_det) (bi__law_det : Binds K fd__law_det ["matrix"] []) (gm__law_det : mg "_law_det" = some (.ref a__law_det)) (kp__law_det : PySem.W.keepIn K (.ref a__law_det) = true) : FnV P w K mg base 6 a fd ["matrix", "many", "prime"] 0 F__law_has := by
  refine' fnv F sc__law_has (by decide) ?hw fun cdv A outer s H E hr => ?hb
  case hb =>
    have nd := sc__law_has.nd
    have u1 := Nat.lt_of_le_of_lt (Nat.add_le_add_left (show 1 ≤ 16 * 5 + 200 by decide) _) hr.un
    have u64 := Nat.lt_of_le_of_lt (Nat.add_le_add_left (show 64 ≤ 16 * 5 + 200 by decide) _) hr.un
    have u65 := Nat.lt_of_le_of_lt (Nat.add_le_add_left (show 65 ≤ 16 * 5 + 200 by decide) _) hr.un
    exact (pssv_cons (psv_for PassesOwn.never rfl (piv_seq (pev_call G__law_choices runF_ok (hr.mono (by decide)) (by rfl) gm__law_choices kp__law_choices bi__law_choices (pav_cons (pev_callB call_lenV cs_len (by rfl) z_len (by rfl) (pav_cons (pev_var 0) (pav_nil (x := false)))) (pav_cons (pev_var 1) (pav_nil (x := false)))))) (pgv_name 3 nd) (pssv_one (psv_for PassesOwn.never rfl (piv_seq (pev_call G__law_choices runF_ok (hr.mono (by decide)) (by rfl) gm__law_choices kp__law_choices bi__law_choices (pav_cons (pev_callB call_lenV cs_len (by rfl) z_len (by rfl) (pav_cons (pev_ixA u1 (pev_var 0) pev_int) (pav_nil (x := false)))) (pav_cons (pev_var 1) (pav_nil (x := false)))))) (pgv_name 4 nd) (pssv_cons (psv_setLc (own := [("row", 7)]) 5 rfl nd (sw_true rfl rfl rfl (by decide +kernel)) (piv_seq (pev_var 3)) (blkOk_by (own := [("row", 7)]) (N := N__law_has) (sc := defScope sf__law_has) (by decide +kernel)) (fun _ _ _ _ _ => (pgv_name 7 nd)) (fun _ _ _ _ _ => ptsv_nil) (fun _ _ _ _ _ => (pev_frz (pev_lcV (own := [("column", 6)]) [6] rfl nd (piv_seq (pev_var 4)) (by refine blkOk_by (own := [("column", 6)]) ?_; kernel_rfl) (fun _ _ _ _ _ => (pgv_name 6 nd)) (fun _ _ _ _ _ => ptsv_nil) (fun _ _ _ _ _ => (pev_chk (pev_ixA u1 (pev_ixA u1 (pev_var 0) (pev_var 7)) (pev_var 6))))))))
    (pssv_one (psv_if (ptv_cmp (op_neD u64) os_ne (pev_op op_modN os_mod (pev_callTy call_int1 cs_int (by rfl) z_int (by rfl) (pav_cons (pev_call G__law_det runF_ok (hr.mono (by decide)) (by rfl) gm__law_det kp__law_det bi__law_det (pav_cons (pev_var 5) (pav_nil (x := false)))) (pav_nil (x := false)))) (pev_var 2)) pev_int (nomark _)) (pssv_one (psv_ret pev_bl)) pssv_nil))))))
    (pssv_one (psv_ret pev_bl)))
  case hw => decide
theorem ok__law_span {a : Addr} {fd : FuncData} (F : Fun K "_law_span" "_law_span" sf__law_span a fd) (z_int : mg "int" = none) (z_len : mg "len" = none) (z_range : mg "range" = none) (z_set : mg "set" = none) (z_sorted : mg "sorted" = none) (z_tuple : mg "tuple" = none) : FnV P w K mg base 1 a fd ["matrix", "prime"] 0 F__law_span := by
  refine' fnv F sc__law_span (by decide) ?hw fun cdv A outer s H E hr => ?hb
  case hb =>
    have nd := sc__law_span.nd
    have u1 := Nat.lt_of_le_of_lt (Nat.add_le_add_left (show 1 ≤ 16 * 0 + 200 by decide) _) hr.un
    have u64 := Nat.lt_of_le_of_lt (Nat.add_le_add_left (show 64 ≤ 16 * 0 + 200 by decide) _) hr.un
    have u65 := Nat.lt_of_le_of_lt (Nat.add_le_add_left (show 65 ≤ 16 * 0 + 200 by decide) _) hr.un
    exact (pssv_cons (psv_set 2 nd (pev_lst (pav_consX (pev_callTy call_tuple_of cs_tuple (by rfl) z_tuple (by rfl) (pav_cons (pev_lcV (own := [("number", 3)]) [3] rfl nd (piv_seq (pev_ixA u1 (pev_var 0) pev_int)) (blkOk_by (own := [("number", 3)]) (N := N__law_span) (sc := defScope sf__law_span) (by decide +kernel)) (fun _ _ _ _ _ => (pgv_name 3 nd)) (fun _ _ _ _ _ => ptsv_nil) (fun _ _ _ _ _ => pev_int)) (pav_nil (x := false)))) (pav_nil (x := true)))))
    (pssv_cons (psv_for PassesOwn.never rfl (piv_seq (pev_var 0)) (pgv_name 4 nd) (pssv_cons (psv_set 5 nd (pev_lst (pav_nil (x := true))))
    (pssv_cons (psv_for PassesOwn.never rfl (piv_seq (pev_var 2)) (pgv_name 6 nd) (pssv_one (psv_for PassesOwn.never rfl (piv_range1 (by rfl) z_range (pav_cons (pev_var 1) (pav_nil (x := false)))) (pgv_name 7 nd) (pssv_one (psv_expr (pev_bm 5 PySem.F.plainAttrs_list PySem.F.slot_list_append PySem.F.type_list_append mt_append mu_append (pav_consX (pev_callTy call_tuple_of cs_tuple (by rfl) z_tuple (by rfl) (pav_cons (pev_lcV (own := [("k", 8)]) [8] rfl nd (piv_range1 (by rfl) z_range (pav_cons (pev_callB call_lenV cs_len (by rfl) z_len (by rfl) (pav_cons (pev_var 4) (pav_nil (x := false)))) (pav_nil (x := false)))) (blkOk_by (own := [("k", 8)]) (N := N__law_span) (sc := defScope sf__law_span) (by decide +kernel)) (fun _ _ _ _ _ => (pgv_name 8 nd)) (fun _ _ _ _ _ => ptsv_nil) (fun _ _ _ _ _ => (pev_op op_modN os_mod (pev_callTy call_int1 cs_int (by rfl) z_int (by rfl) (pav_cons (pev_op op_addV os_add (pev_ixA u1 (pev_var 6) (pev_var 8)) (pev_op op_mulA os_mul (pev_var 7) (pev_ixA u1 (pev_var 4) (pev_var 8)))) (pav_nil (x := false)))) (pev_var 1)))) (pav_nil (x := false)))) (pav_nil (x := true)))))))))
    (pssv_one (psv_set 2 nd (pev_SS rfl u64 (by rfl) z_sorted (by rfl) z_set (pav_cons (pev_var 5) (pav_nil (x := false)))))))))
    (pssv_one (psv_ret (pev_callB call_lenV cs_len (by rfl) z_len (by rfl) (pav_cons (pev_var 2) (pav_nil (x := false))))))))
  case hw => decide
theorem ok_law {a : Addr} {fd : FuncData} (F : Fun K "law" "law" sf_law a fd) (z_len : mg "len" = none) (z_min : mg "min" = none) (z_range : mg "range" = none) (z_tuple : mg "tuple" = none) {a__law_state : Addr} {fd__law_state : FuncData} (G__law_state : FnV P w K mg base 1 a__law_state fd__law_state ["script"] 0 F__law_state) (bi__law_state : Binds K fd__law_state ["script"] []) (gm__law_state : mg "_law_state" = some (.ref a__law_state)) (kp__law_state : PySem.W.keepIn K (.ref a__law_state) = true) {a__law_draw : Addr} {fd__law_draw : FuncData} (G__law_draw : FnV P w K mg base 1 a__law_draw fd__law_draw ["state", "limit"] 1 F__law_draw) (bi__law_draw : Binds K fd__law_draw ["state", "limit"] []) (gm__law_draw : mg "_law_draw" = some (.ref a__law_draw)) (kp__law_draw : PySem.W.keepIn K (.ref a__law_draw) = true) {a__law_matrix : Addr} {fd__law_matrix : FuncData} (G__law_matrix : FnV P w K mg base 2 a__law_matrix fd__law_matrix ["state", "rows", "columns", "size"] 1 F__law_matrix) (bi__law_matrix : Binds K fd__law_matrix ["state", "rows", "columns", "size"] []) (gm__law_matrix : mg "_law_matrix" = some (.ref a__law_matrix)) (kp__law_matrix : PySem.W.keepIn K (.ref a__law_matrix) = true) {a_rank_modulo : Addr} {fd_rank_modulo : FuncData} (G_rank_modulo : FnV P w K mg base 2 a_rank_modulo fd_rank_modulo ["matrix", "prime"] 0 F_rank_modulo) (bi_rank_modulo : Binds K fd_rank_modulo ["matrix", "prime"] []) (gm_rank_modulo : mg "rank_modulo" = some (.ref a_rank_modulo)) (kp_rank_modulo : PySem.W.keepIn K (.ref a_rank_modulo) = true) {a__law_is_int : Addr} {fd__law_is_int : FuncData} (G__law_is_int : FnV P w K mg base 1 a__law_is_int fd__law_is_int ["value"] 0 F__law_is_int) (bi__law_is_int : Binds K fd__law_is_int ["value"] []) (gm__law_is_int : mg "_law_is_int" = some (.ref a__law_is_int)) (kp__law_is_int : PySem.W.keepIn K (.ref a__law_is_int) = true) {a__law_has : Addr} {fd__law_has : FuncData} (G__law_has : FnV P w K mg base 6 a__law_has fd__law_has ["matrix", "many", "prime"] 0 F__law_has) (bi__law_has : Binds K fd__law_has ["matrix", "many", "prime"] []) (gm__law_has : mg "_law_has" = some (.ref a__law_has)) (kp__law_has : PySem.W.keepIn K (.ref a__law_has) = true) {a__law_span : Addr} {fd__law_span : FuncData} (G__law_span : FnV P w K mg base 1 a__law_span fd__law_span ["matrix", "prime"] 0 F__law_span) (bi__law_span : Binds K fd__law_span ["matrix", "prime"] []) (gm__law_span : mg "_law_span" = some (.ref a__law_span)) (kp__law_span : PySem.W.keepIn K (.ref a__law_span) = true) : FnV P w K mg base 7 a fd ["script"] 0 F_law := by
  refine' fnv F sc_law (by decide) ?hw fun cdv A outer s H E hr => ?hb
  case hb =>
    have nd := sc_law.nd
    have u1 := Nat.lt_of_le_of_lt (Nat.add_le_add_left (show 1 ≤ 16 * 6 + 200 by decide) _) hr.un
    have u64 := Nat.lt_of_le_of_lt (Nat.add_le_add_left (show 64 ≤ 16 * 6 + 200 by decide) _) hr.un
    have u65 := Nat.lt_of_le_of_lt (Nat.add_le_add_left (show 65 ≤ 16 * 6 + 200 by decide) _) hr.un
    exact (pssv_cons (psv_set 1 nd (pev_call G__law_state runF_ok (hr.mono (by decide)) (by rfl) gm__law_state kp__law_state bi__law_state (pav_cons (pev_var 0) (pav_nil (x := false)))))
    (pssv_cons (psv_set 2 nd (pev_chk (pev_ixA u1 (pev_lst (pav_consX pev_int (pav_consX pev_int (pav_consX pev_int (pav_consX pev_int (pav_consX pev_int (pav_consX pev_int (pav_nil (x := true))))))))) (pev_callM 1 G__law_draw runF_ok (by decide) (hr.mono (by decide)) (by rfl) gm__law_draw kp__law_draw bi__law_draw (pav_cons pev_int (pav_nil (x := false)))))))
    (pssv_cons (psv_set 3 nd (pev_op op_addV os_add pev_int (pev_callM 1 G__law_draw runF_ok (by decide) (hr.mono (by decide)) (by rfl) gm__law_draw kp__law_draw bi__law_draw (pav_cons pev_int (pav_nil (x := false))))))
    (pssv_cons (psv_set 4 nd (pev_op op_addV os_add pev_int (pev_callM 1 G__law_draw runF_ok (by decide) (hr.mono (by decide)) (by rfl) gm__law_draw kp__law_draw bi__law_draw (pav_cons pev_int (pav_nil (x := false))))))
    (pssv_cons (psv_set 5 nd (pev_callM 1 G__law_matrix runF_ok (by decide) (hr.mono (by decide)) (by rfl) gm__law_matrix kp__law_matrix bi__law_matrix (pav_cons (pev_var 3) (pav_cons (pev_var 4) (pav_cons (pev_ixA u1 (pev_lst (pav_consX pev_int (pav_consX pev_int (pav_consX (pev_op op_pow os_pow pev_int pev_int) (pav_nil (x := true)))))) (pev_callM 1 G__law_draw runF_ok (by decide) (hr.mono (by decide)) (by rfl) gm__law_draw kp__law_draw bi__law_draw (pav_cons pev_int (pav_nil (x := false))))) (pav_nil (x := false)))))))
    (pssv_cons (psv_set 6 nd (pev_call G_rank_modulo runF_ok (hr.mono (by decide)) (by rfl) gm_rank_modulo kp_rank_modulo bi_rank_modulo (pav_cons (pev_var 5) (pav_cons (pev_var 2) (pav_nil (x := false))))))
    (pssv_cons (psv_if (ptv_not (ptv_tr (pev_call G__law_is_int runF_ok (hr.mono (by decide)) (by rfl) gm__law_is_int kp__law_is_int bi__law_is_int (pav_cons (pev_var 6) (pav_nil (x := false)))))) (pssv_one (psv_ret pev_bl)) pssv_nil)
    (pssv_cons (psv_if (ptv_w (pwv_and (ptv_cmp op_lt os_B (pev_var 3) pev_int (nomark _)) (pwv_and1 (ptv_cmp op_lt os_B (pev_var 4) pev_int (nomark _))))) (pssv_cons (psv_set 7 nd (pev_callB call_lenV cs_len (by rfl) z_len (by rfl) (pav_cons (pev_lcV (own := [("many", 8)]) [8] rfl nd (piv_range2 (by rfl) z_range (pav_cons pev_int (pav_cons (pev_op op_addV os_add (pev_callB (call_minA rfl) cs_minA (by rfl) z_min (by rfl) (pav_cons (pev_var 3) (pav_cons (pev_var 4) (pav_nil (x := false))))) pev_int) (pav_nil (x := false))))) (blkOk_by (own := [("many", 8)]) (N := N_law) (sc := defScope sf_law) (by decide +kernel)) (fun _ _ _ _ _ => (pgv_name 8 nd)) (fun _ _ _ _ _ => (ptsv_one (ptv_tr (pev_call G__law_has runF_ok (hr.mono (by decide)) (by rfl) gm__law_has kp__law_has bi__law_has (pav_cons (pev_var 5) (pav_cons (pev_var 8) (pav_cons (pev_var 2) (pav_nil (x := false))))))))) (fun _ _ _ _ _ => (pev_val 8))) (pav_nil (x := false)))))
    (pssv_one (psv_if (ptv_cmp (op_neD u64) os_ne (pev_var 6) (pev_var 7) (nomark _)) (pssv_one (psv_ret pev_bl)) pssv_nil))) pssv_nil)
    (pssv_cons (psv_if (ptv_w (pwv_and (ptv_cmp op_lt os_B (pev_var 2) pev_int (nomark _)) (pwv_and1 (ptv_cmp op_lt os_B (pev_var 3) pev_int (nomark _))))) (pssv_cons (psv_set 9 nd pev_int)
    (pssv_cons (psv_for PassesOwn.never rfl (piv_range1 (by rfl) z_range (pav_cons (pev_var 6) (pav_nil (x := false)))) (pgv_name 10 nd) (pssv_one (psv_set 9 nd (pev_op op_mulA os_mul (pev_var 9) (pev_var 2)))))
    (pssv_one (psv_if (ptv_cmp (op_neD u64) os_ne (pev_call G__law_span runF_ok (hr.mono (by decide)) (by rfl) gm__law_span kp__law_span bi__law_span (pav_cons (pev_var 5) (pav_cons (pev_var 2) (pav_nil (x := false))))) (pev_var 9) (nomark _)) (pssv_one (psv_ret pev_bl)) pssv_nil)))) pssv_nil)
    (pssv_cons (psv_set 11 nd (pev_callTy call_tuple_of cs_tuple (by rfl) z_tuple (by rfl) (pav_cons (pev_lcV (own := [("k", 10)]) [10] rfl nd (piv_range1 (by rfl) z_range (pav_cons (pev_var 4) (pav_nil (x := false)))) (blkOk_by (own := [("k", 10)]) (N := N_law) (sc := defScope sf_law) (by decide +kernel)) (fun _ _ _ _ _ => (pgv_name 10 nd)) (fun _ _ _ _ _ => ptsv_nil) (fun _ _ _ _ _ => (pev_callTy call_tuple_of cs_tuple (by rfl) z_tuple (by rfl) (pav_cons (pev_lcV (own := [("row", 12)]) [12] rfl nd (piv_seq (pev_var 5)) (by refine blkOk_by (own := [("row", 12)]) ?_; kernel_rfl) (fun _ _ _ _ _ => (pgv_name 12 nd)) (fun _ _ _ _ _ => ptsv_nil) (fun _ _ _ _ _ => (pev_chk (pev_ixA u1 (pev_var 12) (pev_var 10))))) (pav_nil (x := false)))))) (pav_nil (x := false)))))
    (pssv_one (psv_ret (pev_and (pev_cmp (op_eqD u64) os_eq (pev_call G_rank_modulo runF_ok (hr.mono (by decide)) (by rfl) gm_rank_modulo kp_rank_modulo bi_rank_modulo (pav_cons (pev_var 11) (pav_cons (pev_var 2) (pav_nil (x := false))))) (pev_var 6) (nomark _)) (pev_one (pev_cmp (op_eqD u64) os_eq (pev_call G_rank_modulo runF_ok (hr.mono (by decide)) (by rfl) gm_rank_modulo kp_rank_modulo bi_rank_modulo (pav_cons (pev_tup (pav_nil (x := true))) (pav_cons (pev_var 2) (pav_nil (x := false))))) pev_int (nomark _))))))))))))))))
  case hw => decide
end
theorem all_mk {l : PySem.W.OpenLaw} {w : World} {K : PySem.W.Frag} {h : Heap} {mg : Str → Option Value} {fa : Addr} (X : K.In h) (G : h.Ns mainGlobals mg) (hfa : mg "law" = some (.ref fa))
    {oc0 kV0 dc0 pm0 cd0 ct0 : Value} {od0 an0 : Option Addr} {sl0 : Array (Option Value)} {f0 : Addr} {oc1 kV1 dc1 pm1 cd1 ct1 : Value} {od1 an1 : Option Addr} {sl1 : Array (Option Value)} {f1 : Addr} {oc2 kV2 dc2 pm2 cd2 ct2 : Value} {od2 an2 : Option Addr} {sl2 : Array (Option Value)} {f2 : Addr} {oc3 kV3 dc3 pm3 cd3 ct3 : Value} {od3 an3 : Option Addr} {sl3 : Array (Option Value)} {f3 : Addr} {oc4 kV4 dc4 pm4 cd4 ct4 : Value} {od4 an4 : Option Addr} {sl4 : Array (Option Value)} {f4 : Addr} {oc5 kV5 dc5 pm5 cd5 ct5 : Value} {od5 an5 : Option Addr} {sl5 : Array (Option Value)} {f5 : Addr} {oc6 kV6 dc6 pm6 cd6 ct6 : Value} {od6 an6 : Option Addr} {sl6 : Array (Option Value)} {f6 : Addr} {oc7 kV7 dc7 pm7 cd7 ct7 : Value} {od7 an7 : Option Addr} {sl7 : Array (Option Value)} {f7 : Addr} {oc8 kV8 dc8 pm8 cd8 ct8 : Value} {od8 an8 : Option Addr} {sl8 : Array (Option Value)} {f8 : Addr} {oc9 kV9 dc9 pm9 cd9 ct9 : Value} {od9 an9 : Option Addr} {sl9 : Array (Option Value)} {f9 : Addr} {oc10 kV10 dc10 pm10 cd10 ct10 : Value} {od10 an10 : Option Addr} {sl10 : Array (Option Value)} {f10 : Addr}
    (a0 : PySem.W.nsIn K mainGlobals "_inverse" = some (some (.ref f0)))
    (l0 : K.lookup f0 = some ⟨oc0, od0, .func (PySem.W.fnOf "_inverse" "_inverse" (defArgs sf__inverse) (defBody sf__inverse) (defScope sf__inverse) .none kV0 dc0 pm0 an0 cd0 ct0), sl0⟩)
    (c0 : PySem.W.codeIn K cd0 "_inverse" = true)
    (k0 : PySem.W.keepIn K (.ref f0) = true)
    (a1 : PySem.W.nsIn K mainGlobals "rank_modulo" = some (some (.ref f1)))
    (l1 : K.lookup f1 = some ⟨oc1, od1, .func (PySem.W.fnOf "rank_modulo" "rank_modulo" (defArgs sf_rank_modulo) (defBody sf_rank_modulo) (defScope sf_rank_modulo) .none kV1 dc1 pm1 an1 cd1 ct1), sl1⟩)
    (c1 : PySem.W.codeIn K cd1 "rank_modulo" = true)
    (k1 : PySem.W.keepIn K (.ref f1) = true)
    (a2 : PySem.W.nsIn K mainGlobals "_law_state" = some (some (.ref f2)))
    (l2 : K.lookup f2 = some ⟨oc2, od2, .func (PySem.W.fnOf "_law_state" "_law_state" (defArgs sf__law_state) (defBody sf__law_state) (defScope sf__law_state) .none kV2 dc2 pm2 an2 cd2 ct2), sl2⟩)
    (c2 : PySem.W.codeIn K cd2 "_law_state" = true)
    (k2 : PySem.W.keepIn K (.ref f2) = true)
    (a3 : PySem.W.nsIn K mainGlobals "_law_draw" = some (some (.ref f3)))
    (l3 : K.lookup f3 = some ⟨oc3, od3, .func (PySem.W.fnOf "_law_draw" "_law_draw" (defArgs sf__law_draw) (defBody sf__law_draw) (defScope sf__law_draw) .none kV3 dc3 pm3 an3 cd3 ct3), sl3⟩)
    (c3 : PySem.W.codeIn K cd3 "_law_draw" = true)
    (k3 : PySem.W.keepIn K (.ref f3) = true)
    (a4 : PySem.W.nsIn K mainGlobals "_law_det" = some (some (.ref f4)))
    (l4 : K.lookup f4 = some ⟨oc4, od4, .func (PySem.W.fnOf "_law_det" "_law_det" (defArgs sf__law_det) (defBody sf__law_det) (defScope sf__law_det) .none kV4 dc4 pm4 an4 cd4 ct4), sl4⟩)
    (c4 : PySem.W.codeIn K cd4 "_law_det" = true)
    (k4 : PySem.W.keepIn K (.ref f4) = true)
    (a5 : PySem.W.nsIn K mainGlobals "_law_matrix" = some (some (.ref f5)))
    (l5 : K.lookup f5 = some ⟨oc5, od5, .func (PySem.W.fnOf "_law_matrix" "_law_matrix" (defArgs sf__law_matrix) (defBody sf__law_matrix) (defScope sf__law_matrix) .none kV5 dc5 pm5 an5 cd5 ct5), sl5⟩)
    (c5 : PySem.W.codeIn K cd5 "_law_matrix" = true)
    (k5 : PySem.W.keepIn K (.ref f5) = true)
    (a6 : PySem.W.nsIn K mainGlobals "_law_is_int" = some (some (.ref f6)))
    (l6 : K.lookup f6 = some ⟨oc6, od6, .func (PySem.W.fnOf "_law_is_int" "_law_is_int" (defArgs sf__law_is_int) (defBody sf__law_is_int) (defScope sf__law_is_int) .none kV6 dc6 pm6 an6 cd6 ct6), sl6⟩)
    (c6 : PySem.W.codeIn K cd6 "_law_is_int" = true)
    (k6 : PySem.W.keepIn K (.ref f6) = true)
    (a7 : PySem.W.nsIn K mainGlobals "_law_choices" = some (some (.ref f7)))
    (l7 : K.lookup f7 = some ⟨oc7, od7, .func (PySem.W.fnOf "_law_choices" "_law_choices" (defArgs sf__law_choices) (defBody sf__law_choices) (defScope sf__law_choices) .none kV7 dc7 pm7 an7 cd7 ct7), sl7⟩)
    (c7 : PySem.W.codeIn K cd7 "_law_choices" = true)
    (k7 : PySem.W.keepIn K (.ref f7) = true)
    (a8 : PySem.W.nsIn K mainGlobals "_law_has" = some (some (.ref f8)))
    (l8 : K.lookup f8 = some ⟨oc8, od8, .func (PySem.W.fnOf "_law_has" "_law_has" (defArgs sf__law_has) (defBody sf__law_has) (defScope sf__law_has) .none kV8 dc8 pm8 an8 cd8 ct8), sl8⟩)
    (c8 : PySem.W.codeIn K cd8 "_law_has" = true)
    (k8 : PySem.W.keepIn K (.ref f8) = true)
    (a9 : PySem.W.nsIn K mainGlobals "_law_span" = some (some (.ref f9)))
    (l9 : K.lookup f9 = some ⟨oc9, od9, .func (PySem.W.fnOf "_law_span" "_law_span" (defArgs sf__law_span) (defBody sf__law_span) (defScope sf__law_span) .none kV9 dc9 pm9 an9 cd9 ct9), sl9⟩)
    (c9 : PySem.W.codeIn K cd9 "_law_span" = true)
    (k9 : PySem.W.keepIn K (.ref f9) = true)
    (a10 : PySem.W.nsIn K mainGlobals "law" = some (some (.ref f10)))
    (l10 : K.lookup f10 = some ⟨oc10, od10, .func (PySem.W.fnOf "law" "law" (defArgs sf_law) (defBody sf_law) (defScope sf_law) .none kV10 dc10 pm10 an10 cd10 ct10), sl10⟩)
    (c10 : PySem.W.codeIn K cd10 "law" = true)
    (k10 : PySem.W.keepIn K (.ref f10) = true)
    (z_bool : PySem.W.nsIn K mainGlobals "bool" = some none)
    (z_int : PySem.W.nsIn K mainGlobals "int" = some none)
    (z_isinstance : PySem.W.nsIn K mainGlobals "isinstance" = some none)
    (z_len : PySem.W.nsIn K mainGlobals "len" = some none)
    (z_list : PySem.W.nsIn K mainGlobals "list" = some none)
    (z_min : PySem.W.nsIn K mainGlobals "min" = some none)
    (z_range : PySem.W.nsIn K mainGlobals "range" = some none)
    (z_set : PySem.W.nsIn K mainGlobals "set" = some none)
    (z_sorted : PySem.W.nsIn K mainGlobals "sorted" = some none)
    (z_tuple : PySem.W.nsIn K mainGlobals "tuple" = some none)
    (z_zip : PySem.W.nsIn K mainGlobals "zip" = some none) :
    ∃ fd : FuncData, (∀ (s : Shared) (v : Value), BindsTo s fd ⟨[v], []⟩ [("script", v)]) ∧ ∀ base : Heap, K.In base → base.Ns mainGlobals mg → FnOk l.prog w K mg base CX0 7 fa fd ["script"] (spV K 1 0 F_law) := by
  have e := hfa.symm.trans (PySem.W.mg_of X G a10)
  cases e
  have F0 := fun_mk (st := sf__inverse) l0 c0 k0
  have bi0 := F0.binds (ps := ["number", "prime"]) fun _ _ _ _ _ _ us hl => match us, hl with | [_, _], _ => rfl
  have F1 := fun_mk (st := sf_rank_modulo) l1 c1 k1
  have bi1 := F1.binds (ps := ["matrix", "prime"]) fun _ _ _ _ _ _ us hl => match us, hl with | [_, _], _ => rfl
  have F2 := fun_mk (st := sf__law_state) l2 c2 k2
  have bi2 := F2.binds (ps := ["script"]) fun _ _ _ _ _ _ us hl => match us, hl with | [_], _ => rfl
  have F3 := fun_mk (st := sf__law_draw) l3 c3 k3
  have bi3 := F3.binds (ps := ["state", "limit"]) fun _ _ _ _ _ _ us hl => match us, hl with | [_, _], _ => rfl
  have F4 := fun_mk (st := sf__law_det) l4 c4 k4
  have bi4 := F4.binds (ps := ["matrix"]) fun _ _ _ _ _ _ us hl => match us, hl with | [_], _ => rfl
  have F5 := fun_mk (st := sf__law_matrix) l5 c5 k5
  have bi5 := F5.binds (ps := ["state", "rows", "columns", "size"]) fun _ _ _ _ _ _ us hl => match us, hl with | [_, _, _, _], _ => rfl
  have F6 := fun_mk (st := sf__law_is_int) l6 c6 k6
  have bi6 := F6.binds (ps := ["value"]) fun _ _ _ _ _ _ us hl => match us, hl with | [_], _ => rfl
  have F7 := fun_mk (st := sf__law_choices) l7 c7 k7
  have bi7 := F7.binds (ps := ["count", "many"]) fun _ _ _ _ _ _ us hl => match us, hl with | [_, _], _ => rfl
  have F8 := fun_mk (st := sf__law_has) l8 c8 k8
  have bi8 := F8.binds (ps := ["matrix", "many", "prime"]) fun _ _ _ _ _ _ us hl => match us, hl with | [_, _, _], _ => rfl
  have F9 := fun_mk (st := sf__law_span) l9 c9 k9
  have bi9 := F9.binds (ps := ["matrix", "prime"]) fun _ _ _ _ _ _ us hl => match us, hl with | [_, _], _ => rfl
  have F10 := fun_mk (st := sf_law) l10 c10 k10
  have bi10 := F10.binds (ps := ["script"]) fun _ _ _ _ _ _ us hl => match us, hl with | [_], _ => rfl
  refine ⟨PySem.W.fnOf "law" "law" (defArgs sf_law) (defBody sf_law) (defScope sf_law) .none kV10 dc10 pm10 an10 cd10 ct10, fun s v => .of_eq rfl, fun base _ _ => ?_⟩
  have H2 := ok__law_state (P := l.prog) (w := w) (K := K) (mg := mg) (base := base) F2 (PySem.W.mg_none_of X G z_list)
  have H3 := ok__law_draw (P := l.prog) (w := w) (K := K) (mg := mg) (base := base) F3 (PySem.W.mg_none_of X G z_int) (PySem.W.mg_none_of X G z_len)
  have H5 := ok__law_matrix (P := l.prog) (w := w) (K := K) (mg := mg) (base := base) F5 (PySem.W.mg_none_of X G z_range) (PySem.W.mg_none_of X G z_tuple) H3 bi3 (PySem.W.mg_of X G a3) F3.kp
  have H0 := ok__inverse (P := l.prog) (w := w) (K := K) (mg := mg) (base := base) F0
  have H1 := ok_rank_modulo (P := l.prog) (w := w) (K := K) (mg := mg) (base := base) F1 (PySem.W.mg_none_of X G z_len) (PySem.W.mg_none_of X G z_range) (PySem.W.mg_none_of X G z_zip) H0 bi0 (PySem.W.mg_of X G a0) F0.kp
  have H6 := ok__law_is_int (P := l.prog) (w := w) (K := K) (mg := mg) (base := base) F6 (PySem.W.mg_none_of X G z_bool) (PySem.W.mg_none_of X G z_int) (PySem.W.mg_none_of X G z_isinstance)
  have H7 := ok__law_choices (P := l.prog) (w := w) (K := K) (mg := mg) (base := base) F7 (PySem.W.mg_none_of X G z_len) (PySem.W.mg_none_of X G z_range)
  have H4 := ok__law_det (P := l.prog) (w := w) (K := K) (mg := mg) (base := base) F4 (PySem.W.mg_none_of X G z_int) (PySem.W.mg_none_of X G z_len) (PySem.W.mg_none_of X G z_list) (PySem.W.mg_none_of X G z_range) bi4 (PySem.W.mg_of X G a4) F4.kp
  have H8 := ok__law_has (P := l.prog) (w := w) (K := K) (mg := mg) (base := base) F8 (PySem.W.mg_none_of X G z_int) (PySem.W.mg_none_of X G z_len) H7 bi7 (PySem.W.mg_of X G a7) F7.kp H4 bi4 (PySem.W.mg_of X G a4) F4.kp
  have H9 := ok__law_span (P := l.prog) (w := w) (K := K) (mg := mg) (base := base) F9 (PySem.W.mg_none_of X G z_int) (PySem.W.mg_none_of X G z_len) (PySem.W.mg_none_of X G z_range) (PySem.W.mg_none_of X G z_set) (PySem.W.mg_none_of X G z_sorted) (PySem.W.mg_none_of X G z_tuple)
  have H10 := ok_law (P := l.prog) (w := w) (K := K) (mg := mg) (base := base) F10 (PySem.W.mg_none_of X G z_len) (PySem.W.mg_none_of X G z_min) (PySem.W.mg_none_of X G z_range) (PySem.W.mg_none_of X G z_tuple) H2 bi2 (PySem.W.mg_of X G a2) F2.kp H3 bi3 (PySem.W.mg_of X G a3) F3.kp H5 bi5 (PySem.W.mg_of X G a5) F5.kp H1 bi1 (PySem.W.mg_of X G a1) F1.kp H6 bi6 (PySem.W.mg_of X G a6) F6.kp H8 bi8 (PySem.W.mg_of X G a8) F8.kp H9 bi9 (PySem.W.mg_of X G a9) F9.kp
  exact H10
end G07
namespace Vl
open PySem PySem.Spec PyProof.Rows L2
/-! ### running a mirror: each construct at an Env -/
@[simp] theorem chk_r (f : M D) (ρ : Env) : chk f ρ = ((f ρ).bind fun p => if p.1.noOwn = true then some p else none : Option (D × Env)) := rfl
@[simp] theorem fAli_r (i : Nat) (ρ : Env) : fAli i ρ = ((Env.at ρ i).bind fun d => if d.noOwn = true then some (d, ρ) else some (d.frz, ρ.set i (some d.frz)) : Option (D × Env)) := rfl
@[simp] theorem fAnd_r (fa fb : M Bool) (ρ : Env) : fAnd fa fb ρ = ((fa ρ).bind fun p => if p.1 = true then fb p.2 else some (false, p.2) : Option (Bool × Env)) := rfl
@[simp] theorem fAndV_r (fa fb : M D) (ρ : Env) : fAndV fa fb ρ = ((fB fa ρ).bind fun p => if p.1 = true then fb p.2 else some (.bl false, p.2) : Option (D × Env)) := rfl
@[simp] theorem fB_r (f : M D) (ρ : Env) : fB f ρ = ((f ρ).bind fun p => match p.1 with
  | .bl b => some (b, p.2)
  | _ => none : Option (Bool × Env)) := rfl
@[simp] theorem fC_r (d : D) (ρ : Env) : fC d ρ = (some (d, ρ) : Option (D × Env)) := rfl
@[simp] theorem fCall_r (F : FD) (fr : M (List D)) (ρ : Env) : fCall F fr ρ = ((fr ρ).bind fun p => (F (D.frzL p.1)).bind fun r => if (r.1.noFz || D.noOwnL p.1) = true then some (r.1, p.2) else none : Option (D × Env)) := rfl
@[simp] theorem fCallM_r (F : FD) (i : Nat) (fr : M (List D)) (ρ : Env) : fCallM F i fr ρ = ((Env.at ρ i).bind fun _ => (fr ρ).bind fun p => (Env.at p.2 i).bind fun o => if D.noOwnL p.1 = true then (F (o :: p.1)).bind fun r => match r.2 with
    | [o'] => some (r.1, p.2.set i (some o'))
    | _ => none
  else none : Option (D × Env)) := rfl
@[simp] theorem fChain_r (O1 T2 O2 T3 : List Nat) (g g' : D → D → Option D) (fa fb fc : M D) (ρ : Env) : fChain O1 T2 O2 T3 g g' fa fb fc ρ = ((fa ρ).bind fun p => (fb p.2).bind fun q => if safe O1 T2 p.1 = true then (g p.1 q.1).bind fun z => match z with
    | .bl true => (fc q.2).bind fun w => if safe O2 T3 q.1 = true then (g' q.1 w.1).bind fun d => some (d, w.2) else none
    | .bl false => some (.bl false, q.2)
    | _ => none
  else none : Option (D × Env)) := rfl
@[simp] theorem fCl_r (g : List D → Option D) (fr : M (List D)) (ρ : Env) : fCl g fr ρ = ((fr ρ).bind fun p => (g p.1).bind fun d => some (d, p.2) : Option (D × Env)) := rfl
@[simp] theorem fComp_r (vs : List Nat) (fi : M (List D)) (g : D → Env → Option Env) (ft : M Bool) (fe : M D) (ρ : Env) : fComp vs fi g ft fe ρ = ((fi ρ).bind fun p => if ownOk p.2 vs = true then (compL vs g ft fe p.1 p.2 []).bind fun q => some (.lst true q.1, backE p.2 q.2 vs) else none : Option (D × Env)) := rfl
@[simp] theorem fComp2_r (vs vs1 : List Nat) (fi : M (List D)) (g : D → Env → Option Env) (ft : M Bool) (fi1 : M (List D)) (g1 : D → Env → Option Env) (ft1 : M Bool) (fe : M D) (ρ : Env) : fComp2 vs vs1 fi g ft fi1 g1 ft1 fe ρ = ((fi ρ).bind fun p => if ownOk p.2 vs = true then (compL2 vs vs1 g ft fi1 g1 ft1 fe p.1 p.2 []).bind fun q => some (.lst true q.1, backE p.2 q.2 vs) else none : Option (D × Env)) := rfl
@[simp] theorem fCons_r (O1 T2 : List Nat) (fa : M D) (fr : M (List D)) (ρ : Env) : fCons O1 T2 fa fr ρ = ((fa ρ).bind fun p => (fr p.2).bind fun q => if safe O1 T2 p.1 = true then some (p.1 :: q.1, q.2) else none : Option ((List D) × Env)) := rfl
@[simp] theorem fDisp_r (ps : List (M D × M D)) (ρ : Env) : fDisp ps ρ = ((fPairs ps ρ).bind fun p => some (.dct true false (p.1.foldl (fun acc kv => putD acc kv.1 kv.2) []), p.2) : Option (D × Env)) := rfl
@[simp] theorem fDk_r (i : Nat) (f : M D) (ρ : Env) : fDk i f ρ = ((fzSlot i ρ).bind f : Option (D × Env)) := rfl
@[simp] theorem fDnew_r  (ρ : Env) : fDnew  ρ = (some (.dct true false [], ρ) : Option (D × Env)) := rfl
@[simp] theorem fDpop_r (i : Nat) (fk : M D) (ρ : Env) : fDpop i fk ρ = ((Env.at ρ i).bind fun o => match o with
  | .dct _ false _ => (fk ρ).bind fun p => (Env.at p.2 i).bind fun o' => (gDpop o' p.1).bind fun q => some (q.1, p.2.set i (some q.2))
  | _ => none : Option (D × Env)) := rfl
@[simp] theorem fFz_r (f : M D) (ρ : Env) : fFz f ρ = ((f ρ).bind fun p => some (p.1.frz, p.2) : Option (D × Env)) := rfl
@[simp] theorem fGet2_r (O0 T1 T2 : List Nat) (fo fk fx : M D) (ρ : Env) : fGet2 O0 T1 T2 fo fk fx ρ = ((fo ρ).bind fun p => (fk p.2).bind fun q => (fx q.2).bind fun r => if (safe O0 (T1 ++ T2) p.1 && q.1.noOwn && r.1.noOwn) = true then (gGet2 p.1 q.1 r.1).bind fun d => if d.noOwn = true then some (d, r.2) else none else none : Option (D × Env)) := rfl
@[simp] theorem fIf_r (ft : M Bool) (fa fb : M D) (ρ : Env) : fIf ft fa fb ρ = ((ft ρ).bind fun p => if p.1 = true then fa p.2 else fb p.2 : Option (D × Env)) := rfl
@[simp] theorem fIsN_r (c : String) (f : M D) (ρ : Env) : fIsN c f ρ = ((f ρ).bind fun p => if notLk p.1 = true then (kitB (tagOf p.1) c).bind fun b => some (.bl b, p.2) else none : Option (D × Env)) := rfl
@[simp] theorem fLst_r (fr : M (List D)) (ρ : Env) : fLst fr ρ = ((fr ρ).bind fun p => if szOk p.1.length = true then some (.lst true p.1, p.2) else none : Option (D × Env)) := rfl
@[simp] theorem fLstRg_r (fr : M (Int × Int)) (ρ : Env) : fLstRg fr ρ = ((fr ρ).bind fun p => if okRg p.1.1 p.1.2 = true then some (.lst true (rgItems p.1.1 (p.1.2 - p.1.1).toNat), p.2) else none : Option (D × Env)) := rfl
@[simp] theorem fMov_r (i : Nat) (ρ : Env) : fMov i ρ = ((Env.at ρ i).bind fun d => some (d, ρ.set i none) : Option (D × Env)) := rfl
@[simp] theorem fMut_r (i : Nat) (ty : String) (g : D → List D → Option (D × D)) (fr : M (List D)) (ρ : Env) : fMut i ty g fr ρ = ((Env.at ρ i).bind fun o => if tyIs ty o = true then (fr ρ).bind fun p => (Env.at p.2 i).bind fun o' => (g o' p.1).bind fun q => some (q.1, p.2.set i (some q.2)) else none : Option (D × Env)) := rfl
@[simp] theorem fNil_r  (ρ : Env) : fNil  ρ = (some ([], ρ) : Option ((List D) × Env)) := rfl
@[simp] theorem fNot_r (fa : M Bool) (ρ : Env) : fNot fa ρ = ((fa ρ).bind fun p => some (!p.1, p.2) : Option (Bool × Env)) := rfl
@[simp] theorem fNotV_r (fa : M D) (ρ : Env) : fNotV fa ρ = ((fB fa ρ).bind fun p => some (.bl (!p.1), p.2) : Option (D × Env)) := rfl
@[simp] theorem fOp_r (O1 T2 : List Nat) (g : D → D → Option D) (fa fb : M D) (ρ : Env) : fOp O1 T2 g fa fb ρ = ((fa ρ).bind fun p => (fb p.2).bind fun q => if safe O1 T2 p.1 = true then (g p.1 q.1).bind fun d => some (d, q.2) else none : Option (D × Env)) := rfl
@[simp] theorem fOr_r (fa fb : M Bool) (ρ : Env) : fOr fa fb ρ = ((fa ρ).bind fun p => if p.1 = true then some (true, p.2) else fb p.2 : Option (Bool × Env)) := rfl
@[simp] theorem fOrV_r (fa fb : M D) (ρ : Env) : fOrV fa fb ρ = ((fB fa ρ).bind fun p => if p.1 = true then some (.bl true, p.2) else fb p.2 : Option (D × Env)) := rfl
@[simp] theorem fSl_r (O1 T2 : List Nat) (f : M D) (fl fh : M (Option Int)) (ρ : Env) : fSl O1 T2 f fl fh ρ = ((f ρ).bind fun p => (fl p.2).bind fun l => (fh l.2).bind fun h => if safe O1 T2 p.1 = true then (gSl p.1 l.1 h.1).bind fun d => some (d, h.2) else none : Option (D × Env)) := rfl
@[simp] theorem fRevS_r (f : M D) (ρ : Env) : fRevS f ρ = ((f ρ).bind fun p => (gRevS p.1).bind fun d => some (d, p.2) : Option (D × Env)) := rfl
@[simp] theorem sUnp_r (n : Nat) (gs : List D → Env → Option Env) (f : M D) (ρ : Env) : sUnp n gs f ρ = ((f ρ).bind fun p => match p.1 with
  | .tup l => if (l.length == n && D.noOwnL l) = true then (gs l p.2).bind fun ρ' => some (.nx ρ') else none
  | .lst _ l => if (l.length == n && D.noOwnL l) = true then (gs l p.2).bind fun ρ' => some (.nx ρ') else none
  | _ => none : Option Res) := rfl
@[simp] theorem fTr_r (f : M D) (ρ : Env) : fTr f ρ = ((f ρ).bind fun p => (truth p.1).bind fun b => some (b, p.2) : Option (Bool × Env)) := rfl
@[simp] theorem fTup_r (fr : M (List D)) (ρ : Env) : fTup fr ρ = ((fr ρ).bind fun p => if szOk p.1.length = true then some (.tup p.1, p.2) else none : Option (D × Env)) := rfl
@[simp] theorem fTupRev_r (f : M D) (ρ : Env) : fTupRev f ρ = ((f ρ).bind fun p => (itemsOf p.1).bind fun l => some (.tup l.reverse, p.2) : Option (D × Env)) := rfl
@[simp] theorem fTupRg_r (fr : M (Int × Int)) (ρ : Env) : fTupRg fr ρ = ((fr ρ).bind fun p => if okRg p.1.1 p.1.2 = true then some (.tup (rgItems p.1.1 (p.1.2 - p.1.1).toNat), p.2) else none : Option (D × Env)) := rfl
@[simp] theorem fTupRg3_r (fr : M (List D)) (ρ : Env) : fTupRg3 fr ρ = ((fr ρ).bind fun p => (downOf p.1).bind fun q => if decide (q.2 ≤ 100000) = true then some (.tup (rgDown q.1 q.2), p.2) else none : Option (D × Env)) := rfl
@[simp] theorem fUn_r (g : D → Option D) (fa : M D) (ρ : Env) : fUn g fa ρ = ((fa ρ).bind fun p => (g p.1).bind fun d => some (d, p.2) : Option (D × Env)) := rfl
@[simp] theorem fVal_r (i : Nat) (ρ : Env) : fVal i ρ = ((Env.at ρ i).bind fun d => if d.noOwn = true then some (d, ρ) else none : Option (D × Env)) := rfl
@[simp] theorem fVar_r (i : Nat) (ρ : Env) : fVar i ρ = ((Env.at ρ i).bind fun d => some (d, ρ) : Option (D × Env)) := rfl
@[simp] theorem fYes_r  (ρ : Env) : fYes  ρ = (some (true, ρ) : Option (Bool × Env)) := rfl
@[simp] theorem iEnm_r (f : M D) (ρ : Env) : iEnm f ρ = ((f ρ).bind fun p => (itemsOf p.1).bind fun l => some (enumD 0 l, p.2) : Option ((List D) × Env)) := rfl
@[simp] theorem iKy_r (i : Nat) (ρ : Env) : iKy i ρ = ((Env.at ρ i).bind fun d => match d with
  | .dct false _ kvs => some (kvs.map (·.1), ρ)
  | _ => none : Option ((List D) × Env)) := rfl
@[simp] theorem iRev_r (f : M D) (ρ : Env) : iRev f ρ = ((f ρ).bind fun p => (itemsOf p.1).bind fun l => some (l.reverse, p.2) : Option ((List D) × Env)) := rfl
@[simp] theorem iRg1_r (fr : M (List D)) (ρ : Env) : iRg1 fr ρ = ((fr ρ).bind fun p => match p.1 with
  | [.int j] => if okR j = true then some (rgItems 0 j.toNat, p.2) else none
  | _ => none : Option ((List D) × Env)) := rfl
@[simp] theorem iRg2_r (fr : M (List D)) (ρ : Env) : iRg2 fr ρ = ((fr ρ).bind fun p => match p.1 with
  | [.int i, .int j] => if (okR i && okR j) = true then some (rgItems i (j - i).toNat, p.2) else none
  | _ => none : Option ((List D) × Env)) := rfl
@[simp] theorem iRg3_r (fr : M (List D)) (ρ : Env) : iRg3 fr ρ = ((fr ρ).bind fun p => (downOf p.1).bind fun q => some (rgDown q.1 q.2, p.2) : Option ((List D) × Env)) := rfl
@[simp] theorem iSeq_r (f : M D) (ρ : Env) : iSeq f ρ = ((f ρ).bind fun p => (itemsOf p.1).bind fun l => some (l, p.2) : Option ((List D) × Env)) := rfl
@[simp] theorem iSeqR_r (f : M D) (ρ : Env) : iSeqR f ρ = ((f ρ).bind fun p => if p.1.noOwn = true then (itemsOf p.1).bind fun l => some (l, p.2) else none : Option ((List D) × Env)) := rfl
@[simp] theorem oNone_r  (ρ : Env) : oNone  ρ = (some (none, ρ) : Option ((Option Int) × Env)) := rfl
@[simp] theorem oSome_r (f : M D) (ρ : Env) : oSome f ρ = ((f ρ).bind fun p => match p.1 with
  | .int i => some (some i, p.2)
  | _ => none : Option ((Option Int) × Env)) := rfl
@[simp] theorem rRg1_r (f : M D) (ρ : Env) : rRg1 f ρ = ((f ρ).bind fun p => match p.1 with
  | .int n => some ((0, n), p.2)
  | _ => none : Option ((Int × Int) × Env)) := rfl
@[simp] theorem rRg2_r (O1 T2 : List Nat) (f g : M D) (ρ : Env) : rRg2 O1 T2 f g ρ = ((f ρ).bind fun p => (g p.2).bind fun q => match p.1, q.1 with
  | .int i, .int j => some ((i, j), q.2)
  | _, _ => none : Option ((Int × Int) × Env)) := rfl
@[simp] theorem sAsg_r (g : D → Env → Option Env) (f : M D) (ρ : Env) : sAsg g f ρ = ((f ρ).bind fun p => if p.1.noOwn = true then (g p.1 p.2).bind fun ρ' => some (.nx ρ') else none : Option Res) := rfl
@[simp] theorem sAug_r (i : Nat) (T : List Nat) (g : D → D → Option D) (f : M D) (ρ : Env) : sAug i T g f ρ = ((Env.at ρ i).bind fun o => (f ρ).bind fun p => if safe [i] T o = true then (g o p.1).bind fun d => some (.nx (p.2.set i (some d))) else none : Option Res) := rfl
@[simp] theorem sAugS_r (i : Nat) (g : D → D → Option D) (fi fe : M D) (ρ : Env) : sAugS i g fi fe ρ = ((Env.at ρ i).bind fun _ => (fi ρ).bind fun p => (Env.at p.2 i).bind fun o => if p.1.noOwn = true then (gGet o p.1).bind fun d => if d.noOwn = true then
  (fe p.2).bind fun q => (g d q.1).bind fun z => if z.noOwn = true then (Env.at q.2 i).bind fun o2 => (gSet o2 p.1 z).bind fun d' => some (.nx (q.2.set i (some d'))) else none else none else none : Option Res) := rfl
@[simp] theorem sBk_r  (ρ : Env) : sBk  ρ = (some (.bk ρ) : Option Res) := rfl
@[simp] theorem sCt_r  (ρ : Env) : sCt  ρ = (some (.ct ρ) : Option Res) := rfl
@[simp] theorem sDk_r (i : Nat) (f : MS) (ρ : Env) : sDk i f ρ = ((fzSlot i ρ).bind f : Option Res) := rfl
@[simp] theorem sDrop_r (f : M D) (ρ : Env) : sDrop f ρ = ((f ρ).bind fun p => some (.nx p.2) : Option Res) := rfl
@[simp] theorem sFor_r (fi : M (List D)) (g : D → Env → Option Env) (body : MS) (ρ : Env) : sFor fi g body ρ = ((fi ρ).bind fun p => forL g body p.1 p.2 : Option Res) := rfl
@[simp] theorem sIf_r (c : M Bool) (a b : MS) (ρ : Env) : sIf c a b ρ = ((c ρ).bind fun p => if p.1 = true then a p.2 else b p.2 : Option Res) := rfl
@[simp] theorem sNil_r  (ρ : Env) : sNil  ρ = (some (.nx ρ) : Option Res) := rfl
@[simp] theorem sPar_r (i j : Nat) (f : M (List D)) (ρ : Env) : sPar i j f ρ = ((f ρ).bind fun p => match p.1 with
  | [d, e] => some (.nx ((p.2.set i (some d)).set j (some e)))
  | _ => none : Option Res) := rfl
@[simp] theorem sRet_r (f : M D) (ρ : Env) : sRet f ρ = ((f ρ).bind fun p => some (.rt p.1 p.2) : Option Res) := rfl
@[simp] theorem sRetN_r  (ρ : Env) : sRetN  ρ = (some (.rt .non ρ) : Option Res) := rfl
@[simp] theorem sSeq_r (a b : MS) (ρ : Env) : sSeq a b ρ = ((a ρ).bind fun r => match r with
  | .nx ρ' => b ρ'
  | r => some r : Option Res) := rfl
@[simp] theorem sSet_r (i : Nat) (f : M D) (ρ : Env) : sSet i f ρ = ((f ρ).bind fun p => some (.nx (p.2.set i (some p.1))) : Option Res) := rfl
@[simp] theorem at_r (ρ : Env) (i : Nat) : Env.at ρ i = (match ρ[i]? with
  | some (some d) => some d
  | _ => none) := by
  unfold Env.at
  cases ρ[i]? with
  | none => rfl
  | some o => cases o <;> rfl
@[simp] theorem noOwnL_ints (ns : List Int) : D.noOwnL (ns.map D.int) = true := by
  induction ns with
  | nil => rfl
  | cons n r ih => exact ih
@[simp] theorem noFzL_ints (ns : List Int) : D.noFzL (ns.map D.int) = true := by
  induction ns with
  | nil => rfl
  | cons n r ih => exact ih
@[simp] theorem frzL_ints (ns : List Int) : D.frzL (ns.map D.int) = ns.map D.int := by
  induction ns with
  | nil => rfl
  | cons n r ih =>
    show D.int n :: D.frzL (r.map D.int) = _
    rw [ih]
    rfl
end Vl

namespace Vl
open PySem PySem.Spec PyProof.Rows L2
@[simp] theorem safe_r1 (O : List Nat) (d : D) : safe O [] d = true := by
  unfold safe
  have : (O.all fun i => !([] : List Nat).contains i) = true := by simp
  rw [this]; rfl
@[simp] theorem safe_r2 (T : List Nat) (d : D) : safe [] T d = true := rfl
@[simp] theorem gIxA_l (o : Bool) (l : List D) (i : Int) : gIxA (.lst o l) (.int i) = L2.atI l i := rfl
@[simp] theorem gIxA_t (l : List D) (i : Int) : gIxA (.tup l) (.int i) = L2.atI l i := rfl
@[simp] theorem gEq_i (i j : Int) : gEq (.int i) (.int j) = some (.bl (decide (i = j))) := by
  unfold gEq
  rw [if_pos (by simp [eqOk, D.eok, D.dep])]
  simp only [pyEq, D.toP, PyData.eqv]
  first | rfl | rw [Bool.beq_eq_decide_eq]
@[simp] theorem gNe_i (i j : Int) : gNe (.int i) (.int j) = some (.bl (!decide (i = j))) := by
  unfold gNe
  rw [if_pos (by simp [eqOk, D.eok, D.dep])]
  simp only [pyEq, D.toP, PyData.eqv]
  first | rfl | rw [Bool.beq_eq_decide_eq]
@[simp] theorem gLt_i (i j : Int) : gLt (.int i) (.int j) = some (.bl (decide (i < j))) := rfl
@[simp] theorem gLe_i (i j : Int) : gLe (.int i) (.int j) = some (.bl (decide (i ≤ j))) := rfl
@[simp] theorem gGt_i (i j : Int) : gGt (.int i) (.int j) = some (.bl (decide (j < i))) := rfl
@[simp] theorem gGe_i (i j : Int) : gGe (.int i) (.int j) = some (.bl (decide (j ≤ i))) := rfl
@[simp] theorem gSub_i (i j : Int) : gSub (.int i) (.int j) = some (.int (i - j)) := rfl
@[simp] theorem gAdd_i (i j : Int) : gAdd (.int i) (.int j) = some (.int (i + j)) := rfl
@[simp] theorem gAddI_i (i j : Int) : gAddI (.int i) (.int j) = some (.int (i + j)) := rfl
@[simp] theorem gNeg_i (i : Int) : gNeg (.int i) = some (.int (-i)) := rfl
@[simp] theorem gLen_l (o : Bool) (l : List D) : gLen [.lst o l] = some (.int (l.length : Int)) := rfl
@[simp] theorem gLen_t (l : List D) : gLen [.tup l] = some (.int (l.length : Int)) := rfl
@[simp] theorem gInt_i (i : Int) : gInt [.int i] = some (.int i) := rfl
@[simp] theorem truth_b (b : Bool) : truth (.bl b) = some b := rfl
theorem gMul_i {i j : Int} (h : cMul i j = true) : gMul (.int i) (.int j) = some (.int (i * j)) := by
  show (if cMul i j = true then some (D.int (i * j)) else none) = _
  rw [if_pos h]
theorem gMod_i {i j : Int} (h : j ≠ 0) : gMod (.int i) (.int j) = some (.int (i.fmod j)) := by
  show (if cMod i j = true then some (D.int (i.fmod j)) else none) = _
  rw [if_pos (by simpa [cMod] using h)]
theorem gDiv_L {i j : Int} (h : j ≠ 0) (h2 : j.natAbs < 2 ^ 8000) : gDiv (.int i) (.int j) = some (.int (i.fdiv j)) := by
  show (if cDiv i j = true then some (D.int (i.fdiv j)) else none) = _
  rw [if_pos (by unfold cDiv; rw [decide_eq_true h, decide_eq_true h2]; rfl)]
theorem gDiv_i {i j : Int} (h : j ≠ 0) (h2 : j.natAbs < 18446744073709551616) : gDiv (.int i) (.int j) = some (.int (i.fdiv j)) := by
  show (if cDiv i j = true then some (D.int (i.fdiv j)) else none) = _
  rw [if_pos (by unfold cDiv; rw [decide_eq_true h, decide_eq_true (Nat.lt_of_lt_of_le h2 (Nat.pow_le_pow_right (n := 2) (by decide) (show 64 ≤ 8000 by decide)))]; rfl)]
theorem gPow_i {i j : Int} (h : cPow i j = true) : gPow (.int i) (.int j) = some (.int (i ^ j.toNat)) := by
  show (if cPow i j = true then some (D.int (i ^ j.toNat)) else none) = _
  rw [if_pos h]
end Vl
namespace G07
open PySem PySem.Spec PyProof.Rows L2 Vl
def St (cells : List Int) (i cur left : Int) (big : Bool) : D := .lst true [.lst false (cells.map .int), .int i, .int cur, .int left, .bl big, .int 500]
theorem draw_end (cells : List Int) (i : Int) (limit : Int) (hl : 0 < limit) (h : (cells.length : Int) ≤ i) (cur : Int) (big : Bool) : F__law_draw [St cells i cur 0 big, .int limit] = some (.int 0, [St cells i cur 0 big]) := by
  unfold F__law_draw runF St
  simp [L2.atI, L2.ixN, h, outs]
theorem fmod_lo {a b : Int} (h : 0 < b) : 0 ≤ a.fmod b := by
  rw [Int.fmod_eq_emod_of_nonneg _ (Int.le_of_lt h)]
  exact Int.emod_nonneg _ (by omega)
theorem fmod_hi {a b : Int} (h : 0 < b) : a.fmod b < b := by
  rw [Int.fmod_eq_emod_of_nonneg _ (Int.le_of_lt h)]
  exact Int.emod_lt_of_pos _ h
theorem cMul_r {i j : Int} (h : j.natAbs < 2 ^ 63) : cMul i j = true := by simp [cMul, h]
/-- what the small draw reckons -/
theorem mixE (cur l1 limit : Int) (hl : 0 < limit) : ∃ m r, gMul (.int cur) (.int 48271) = some (.int (cur * 48271)) ∧ gMul (.int l1) (.int 69621) = some (.int (l1 * 69621)) ∧ gMod (.int (cur * 48271 + l1 * 69621 + 7)) (.int 2147483647) = some (.int m) ∧ gMul (.int m) (.int m) = some (.int (m * m)) ∧
    gMul (.int cur) (.int 31) = some (.int (cur * 31)) ∧ (∃ k, gMod (.int (m * m + cur * 31 + l1)) (.int 1000003) = some (.int k) ∧ gMod (.int k) (.int limit) = some (.int r)) ∧ 0 ≤ r ∧ r < limit := by
  have h0 : 0 ≤ (cur * 48271 + l1 * 69621 + 7).fmod 2147483647 := fmod_lo (by decide)
  have h1 : (cur * 48271 + l1 * 69621 + 7).fmod 2147483647 < 2147483647 := fmod_hi (by decide)
  exact ⟨_, _, gMul_i (cMul_r (by decide)), gMul_i (cMul_r (by decide)), gMod_i (by decide), gMul_i (cMul_r (by omega)), gMul_i (cMul_r (by decide)), ⟨_, gMod_i (by decide), gMod_i (by omega)⟩, fmod_lo hl, fmod_hi hl⟩
theorem atI_ints {cells : List Int} {i : Int} (h0 : 0 ≤ i) (h : i < (cells.length : Int)) : ∃ c, L2.atI (cells.map D.int) i = some (.int c) := by
  refine ⟨cells[i.toNat]'(by omega), ?_⟩
  unfold L2.atI L2.ixN
  rw [List.length_map, if_pos h0, if_pos h]
  show (cells.map D.int)[i.toNat]? = _
  rw [List.getElem?_map, List.getElem?_eq_getElem (by omega)]
  rfl
@[simp] theorem six0 (a b c d e f : D) : L2.atI [a, b, c, d, e, f] 0 = some a := rfl
@[simp] theorem six1 (a b c d e f : D) : L2.atI [a, b, c, d, e, f] 1 = some b := rfl
@[simp] theorem six2 (a b c d e f : D) : L2.atI [a, b, c, d, e, f] 2 = some c := rfl
@[simp] theorem six3 (a b c d e f : D) : L2.atI [a, b, c, d, e, f] 3 = some d := rfl
@[simp] theorem six4 (a b c d e f : D) : L2.atI [a, b, c, d, e, f] 4 = some e := rfl
theorem pow18 : gPow (.int 10) (.int 18) = some (.int 1000000000000000000) := gPow_i (by decide)
theorem draw_ok (cells : List Int) (i cur left limit : Int) (big : Bool) (hl : 0 < limit) (hl2 : limit < 10000000000000) (hi : 0 ≤ i) : ∃ r i' cur' left' big', F__law_draw [St cells i cur left big, .int limit] = some (.int r, [St cells i' cur' left' big']) ∧ 0 ≤ i' ∧ 0 ≤ r ∧ r < limit := by
  by_cases h0 : left = 0
  · subst h0
    by_cases hlen : (cells.length : Int) ≤ i
    · exact ⟨0, i, cur, 0, big, draw_end cells i limit hl hlen cur big, hi, Int.le_refl _, hl⟩
    · obtain ⟨c, hc⟩ := atI_ints hi (by omega : i < (cells.length : Int))
      obtain ⟨c', hc'⟩ : ∃ c', c' = if c < 0 then -1 - c else c := ⟨_, rfl⟩
      by_cases hb : 1000000000000000000 ≤ c'
      · have e1 : gMod (.int c') (.int limit) = some (.int (c'.fmod limit)) := gMod_i (by omega)
        have e2 : gDiv (.int c') (.int limit) = some (.int (c'.fdiv limit)) := gDiv_i (by omega) (by omega)
        by_cases hz : c'.fdiv limit = 0
        · refine ⟨c'.fmod limit, i + 1, 0, 0, true, ?_, by omega, fmod_lo hl, fmod_hi hl⟩
          unfold F__law_draw runF St
          by_cases hn : c < 0
          · rw [if_pos hn] at hc'
            subst hc'
            simp [L2.ixN, hlen, outs, gSt, gSet, D.noOwn, D.noOwnL, e1, e2, hc, hn, hb, hz, pow18]
          · rw [if_neg hn] at hc'
            subst hc'
            simp [L2.ixN, hlen, outs, gSt, gSet, D.noOwn, D.noOwnL, e1, e2, hc, hn, hb, hz, pow18]
        · refine ⟨c'.fmod limit, i + 1, c'.fdiv limit, 59, true, ?_, by omega, fmod_lo hl, fmod_hi hl⟩
          unfold F__law_draw runF St
          by_cases hn : c < 0
          · rw [if_pos hn] at hc'
            subst hc'
            simp [L2.ixN, hlen, outs, gSt, gSet, D.noOwn, D.noOwnL, e1, e2, hc, hn, hb, hz, pow18]
          · rw [if_neg hn] at hc'
            subst hc'
            simp [L2.ixN, hlen, outs, gSt, gSet, D.noOwn, D.noOwnL, e1, e2, hc, hn, hb, hz, pow18]
      · obtain ⟨m, r, e1, e2, e3, e4, e5, ⟨k, e6, e7⟩, r1, r2⟩ := mixE c' 5 limit hl
        have e3 : gMod (.int (c' * 48271 + 348105 + 7)) (.int 2147483647) = some (.int m) := e3
        refine ⟨r, i + 1, c', 5, false, ?_, by omega, r1, r2⟩
        unfold F__law_draw runF St
        by_cases hn : c < 0
        · rw [if_pos hn] at hc'
          subst hc'
          simp [L2.ixN, hlen, outs, gSt, gSet, D.noOwn, D.noOwnL, e1, e2, e3, e4, e5, e6, e7, hc, hn, hb, pow18]
        · rw [if_neg hn] at hc'
          subst hc'
          simp [L2.ixN, hlen, outs, gSt, gSet, D.noOwn, D.noOwnL, e1, e2, e3, e4, e5, e6, e7, hc, hn, hb, pow18]
  · cases big with
    | false =>
      obtain ⟨m, r, e1, e2, e3, e4, e5, ⟨k, e6, e7⟩, r1, r2⟩ := mixE cur (left - 1) limit hl
      refine ⟨r, i, cur, left - 1, false, ?_, hi, r1, r2⟩
      unfold F__law_draw runF St
      simp [L2.ixN, h0, outs, gSt, gSet, D.noOwn, D.noOwnL, e1, e2, e3, e4, e5, e6, e7]
    | true =>
      have e1 : gMod (.int cur) (.int limit) = some (.int (cur.fmod limit)) := gMod_i (by omega)
      have e2 : gDiv (.int cur) (.int limit) = some (.int (cur.fdiv limit)) := gDiv_i (by omega) (by omega)
      by_cases hz : cur.fdiv limit = 0
      · refine ⟨cur.fmod limit, i, 0, 0, true, ?_, hi, fmod_lo hl, fmod_hi hl⟩
        unfold F__law_draw runF St
        simp [L2.ixN, h0, outs, gSt, gSet, D.noOwn, D.noOwnL, e1, e2, hz]
      · refine ⟨cur.fmod limit, i, cur.fdiv limit, left - 1, true, ?_, hi, fmod_lo hl, fmod_hi hl⟩
        unfold F__law_draw runF St
        simp [L2.ixN, h0, outs, gSt, gSet, D.noOwn, D.noOwnL, e1, e2, hz]
end G07

namespace G07
open PySem PySem.Spec PyProof.Rows L2 Vl
/-- a state of the draws -/
def IsSt (d : D) : Prop := ∃ cells i cur left big, d = St cells i cur left big ∧ 0 ≤ i
theorem draw (s : D) (limit : Int) (hs : IsSt s) (hl : 0 < limit) (hl2 : limit < 10000000000000) : ∃ r s', F__law_draw [s, .int limit] = some (.int r, [s']) ∧ IsSt s' ∧ 0 ≤ r ∧ r < limit := by
  obtain ⟨cells, i, cur, left, big, rfl, hi⟩ := hs
  obtain ⟨r, i', cur', left', big', e, h1, h2, h3⟩ := draw_ok cells i cur left limit big hl hl2 hi
  exact ⟨r, _, e, ⟨cells, i', cur', left', big', rfl, h1⟩, h2, h3⟩
theorem state_ok (ns : List Int) (h : ns.length ≤ 63) : ∃ s, F__law_state [.scr (ns.map .int)] = some (s, []) ∧ IsSt s := by
  refine ⟨St ns 0 0 0 false, ?_, ⟨ns, 0, 0, 0, false, rfl, Int.le_refl _⟩⟩
  unfold F__law_state runF St
  simp [outs, gListA, gList, D.frz, szOk]
end G07

namespace Vl
open PySem PySem.Spec PyProof.Rows L2
/-! ### comprehensions whose parts are plain -/
theorem compL_pure {i : Nat} {ft : M Bool} {fe : M D} {ρ0 : Env} {p : D → Bool} {h : D → D} : ∀ (items : List D) (ρ : Env) (acc : List D), ρ.set i none = ρ0.set i none →
    (∀ d ∈ items, ft (ρ0.set i (some d)) = some (p d, ρ0.set i (some d))) → (∀ d ∈ items, p d = true → fe (ρ0.set i (some d)) = some (h d, ρ0.set i (some d))) → acc.length + items.length ≤ 100000 →
    ∃ ρ', compL [i] (gNm i) ft fe items ρ acc = some (acc ++ (items.filter p).map h, ρ') ∧ ρ'.set i none = ρ0.set i none
  | [], ρ, acc, hρ, _, _, _ => ⟨ρ, by simp [compL], hρ⟩
  | d :: ds, ρ, acc, hρ, ht, he, hl => by
    have e0 : (wipeE ρ [i]).set i (some d) = ρ0.set i (some d) := by
      show (ρ.set i none).set i (some d) = _
      rw [hρ, List.set_set]
    have ht1 := ht d List.mem_cons_self
    have e1 : (ρ0.set i (some d)).set i none = ρ0.set i none := by rw [List.set_set]
    rw [List.length_cons] at hl
    cases hp : p d with
    | false =>
      obtain ⟨ρ', h1, h2⟩ := compL_pure ds (ρ0.set i (some d)) acc e1 (fun x hx => ht x (List.mem_cons_of_mem _ hx)) (fun x hx => he x (List.mem_cons_of_mem _ hx)) (by omega)
      refine ⟨ρ', ?_, h2⟩
      rw [List.filter_cons, hp, if_neg Bool.false_ne_true]
      show (some ((wipeE ρ [i]).set i (some d))).bind _ = _
      rw [e0, Option.bind_some, ht1, Option.bind_some, hp, if_neg Bool.false_ne_true]
      exact h1
    | true =>
      have he1 := he d List.mem_cons_self hp
      obtain ⟨ρ', h1, h2⟩ := compL_pure ds (ρ0.set i (some d)) (acc ++ [h d]) e1 (fun x hx => ht x (List.mem_cons_of_mem _ hx)) (fun x hx => he x (List.mem_cons_of_mem _ hx)) (by simp; omega)
      refine ⟨ρ', ?_, h2⟩
      rw [List.filter_cons, hp, if_pos rfl, List.map_cons]
      show (some ((wipeE ρ [i]).set i (some d))).bind _ = _
      rw [e0, Option.bind_some, ht1, Option.bind_some, hp, if_pos rfl, he1, Option.bind_some, if_pos (show szOk acc.length = true from decide_eq_true (by omega)), h1, List.append_assoc]
      rfl
theorem set_back (ρ : Env) (i : Nat) : ρ.set i ((ρ[i]?).getD none) = ρ := by
  refine List.ext_getElem? fun j => ?_
  by_cases e : j = i
  · subst e
    by_cases h : j < ρ.length
    · rw [List.getElem?_set_self h, List.getElem?_eq_getElem h]
      rfl
    · rw [List.getElem?_eq_none (by rw [List.length_set]; omega), List.getElem?_eq_none (by omega)]
  · rw [List.getElem?_set_ne (Ne.symm e)]
theorem fComp_pure {i : Nat} {fi : M (List D)} {ft : M Bool} {fe : M D} {ρ0 ρ1 : Env} {items : List D} (p : D → Bool) (h : D → D) (hi : fi ρ0 = some (items, ρ1)) (ho : ownOk ρ1 [i] = true) (ht : ∀ d ∈ items, ft (ρ1.set i (some d)) = some (p d, ρ1.set i (some d)))
    (he : ∀ d ∈ items, p d = true → fe (ρ1.set i (some d)) = some (h d, ρ1.set i (some d))) (hl : items.length ≤ 100000) : fComp [i] fi (gNm i) ft fe ρ0 = some (.lst true ((items.filter p).map h), ρ1) := by
  obtain ⟨ρ', h1, h2⟩ := compL_pure (p := p) (h := h) items ρ1 [] rfl ht he (by simpa using hl)
  unfold fComp
  rw [hi, Option.bind_some, if_pos ho, h1, Option.bind_some, List.nil_append]
  show some (D.lst true _, ρ'.set i ((ρ1[i]?).getD none)) = _
  have e : ρ'.set i ((ρ1[i]?).getD none) = ρ1 := by
    have : (ρ'.set i none).set i ((ρ1[i]?).getD none) = (ρ1.set i none).set i ((ρ1[i]?).getD none) := by rw [h2]
    rw [List.set_set, List.set_set, set_back] at this
    exact this
  rw [e]
/-- .. without an if -/
theorem fComp_all {i : Nat} {fi : M (List D)} {fe : M D} {ρ0 ρ1 : Env} {items : List D} (h : D → D) (hi : fi ρ0 = some (items, ρ1)) (ho : ownOk ρ1 [i] = true)
    (he : ∀ d ∈ items, fe (ρ1.set i (some d)) = some (h d, ρ1.set i (some d))) (hl : items.length ≤ 100000) : fComp [i] fi (gNm i) fYes fe ρ0 = some (.lst true (items.map h), ρ1) := by
  have := fComp_pure (ft := fYes) (fun _ => true) h hi ho (fun _ _ => rfl) (fun d hd _ => he d hd) hl
  rwa [List.filter_eq_self.mpr fun _ _ => rfl] at this
end Vl
namespace Vl
open PySem PySem.Spec PyProof.Rows L2
theorem atI_i {ns : List Int} {k : Nat} {n : Int} (h : ns[k]? = some n) : L2.atI (ns.map D.int) (k : Int) = some (.int n) := by
  have hk : k < ns.length := (List.getElem?_eq_some_iff.mp h).1
  unfold L2.atI L2.ixN
  rw [List.length_map, if_pos (by omega), if_pos (by omega)]
  show (ns.map D.int)[((k : Int)).toNat]? = _
  rw [Int.toNat_natCast, List.getElem?_map, h]
  rfl
theorem atI_k {ds : List D} {k : Nat} {d : D} (h : ds[k]? = some d) : L2.atI ds (k : Int) = some d := by
  have hk : k < ds.length := (List.getElem?_eq_some_iff.mp h).1
  unfold L2.atI L2.ixN
  rw [if_pos (by omega), if_pos (by omega)]
  show ds[((k : Int)).toNat]? = _
  rw [Int.toNat_natCast, h]
@[simp] theorem two0 (a b : D) : L2.atI [a, b] 0 = some a := rfl
@[simp] theorem two1 (a b : D) : L2.atI [a, b] 1 = some b := rfl
/-! ### steps -/
section
variable {a b body : MS} {ρ ρ' ρ1 ρ2 : Vl.Env} {t : M Bool} {n : Nat} {fi : M (List D)} {g : D → Vl.Env → Option Vl.Env} {d : D} {ds : List D}
theorem seq_nx (h : a ρ = some (.nx ρ')) : sSeq a b ρ = b ρ' := by
  show (a ρ).bind _ = _
  rw [h]
  rfl
theorem seq_rt (h : a ρ = some (.rt d ρ')) : sSeq a b ρ = some (.rt d ρ') := by
  show (a ρ).bind _ = _
  rw [h]
  rfl
theorem seq_bk (h : a ρ = some (.bk ρ')) : sSeq a b ρ = some (.bk ρ') := by
  show (a ρ).bind _ = _
  rw [h]
  rfl
theorem while_t (h1 : t ρ = some (true, ρ1)) (h2 : b ρ1 = some (.nx ρ2)) : whileN (n + 1) t b ρ = whileN n t b ρ2 := by
  rw [whileN, h1, Option.bind_some, if_pos rfl, h2]
  rfl
theorem while_f (h1 : t ρ = some (false, ρ1)) : whileN (n + 1) t b ρ = some (.nx ρ1) := by
  rw [whileN, h1, Option.bind_some, if_neg Bool.false_ne_true]
theorem for_it {items : List D} (h : fi ρ = some (items, ρ1)) : sFor fi g body ρ = forL g body items ρ1 := by
  show (fi ρ).bind _ = _
  rw [h]
  rfl
theorem forL_nx (h1 : g d ρ = some ρ1) (h2 : body ρ1 = some (.nx ρ2)) : forL g body (d :: ds) ρ = forL g body ds ρ2 := by
  rw [forL, h1, Option.bind_some, h2]
  rfl
theorem forL_bk (h1 : g d ρ = some ρ1) (h2 : body ρ1 = some (.bk ρ2)) : forL g body (d :: ds) ρ = some (.nx ρ2) := by
  rw [forL, h1, Option.bind_some, h2]
  rfl
theorem if_t {c : M Bool} (h : c ρ = some (true, ρ1)) : sIf c a b ρ = a ρ1 := by
  show (c ρ).bind _ = _
  rw [h]
  rfl
theorem if_f {c : M Bool} (h : c ρ = some (false, ρ1)) : sIf c a b ρ = b ρ1 := by
  show (c ρ).bind _ = _
  rw [h]
  rfl
theorem set_nx {i : Nat} {f : M D} (h : f ρ = some (d, ρ1)) : sSet i f ρ = some (.nx (ρ1.set i (some d))) := by
  show (f ρ).bind _ = _
  rw [h]
  rfl
theorem call_ok {F : FD} {fr : M (List D)} {r : D} (h : fr ρ = some (ds, ρ1)) (hf : D.frzL ds = ds) (hn : D.noOwnL ds = true) (h2 : F ds = some (r, [])) : fCall F fr ρ = some (r, ρ1) := by
  show (fr ρ).bind _ = _
  rw [h, Option.bind_some, hf, h2, Option.bind_some, if_pos (by rw [hn, Bool.or_true])]
theorem run_rt {np n : Nat} {b : MS} {ds : List D} {d : D} {ρ : Vl.Env} (hl : ds.length = np) (h : b (ds.map some ++ List.replicate (n - np) none) = some (.rt d ρ)) : runF np 0 n b ds = some (d, []) := by
  unfold runF
  rw [if_pos hl, h]
  rfl
theorem cons_ok {O1 T2 : List Nat} {fa : M D} {fr : M (List D)} (h1 : fa ρ = some (d, ρ1)) (h2 : fr ρ1 = some (ds, ρ2)) (h3 : safe O1 T2 d = true) : fCons O1 T2 fa fr ρ = some (d :: ds, ρ2) := by
  show (fa ρ).bind _ = _
  rw [h1, Option.bind_some, h2, Option.bind_some, if_pos h3]
theorem op_ok {O1 T2 : List Nat} {g : D → D → Option D} {fa fb : M D} {e r : D} (h1 : fa ρ = some (d, ρ1)) (h2 : fb ρ1 = some (e, ρ2)) (h3 : safe O1 T2 d = true) (h4 : g d e = some r) : fOp O1 T2 g fa fb ρ = some (r, ρ2) := by
  show (fa ρ).bind _ = _
  rw [h1, Option.bind_some, h2, Option.bind_some, if_pos h3, h4]
  rfl
theorem b_ok {f : M D} {k : Bool} (h : f ρ = some (.bl k, ρ1)) : fB f ρ = some (k, ρ1) := by
  show (f ρ).bind _ = _
  rw [h]
  rfl
theorem cl_ok {g : List D → Option D} {fr : M (List D)} (h : fr ρ = some (ds, ρ1)) (h2 : g ds = some d) : fCl g fr ρ = some (d, ρ1) := by
  show (fr ρ).bind _ = _
  rw [h, Option.bind_some, h2]
  rfl
theorem chk_ok {f : M D} (h : f ρ = some (d, ρ1)) (hn : d.noOwn = true) : chk f ρ = some (d, ρ1) := by
  show (f ρ).bind _ = _
  rw [h, Option.bind_some, if_pos hn]
theorem tup_ok {fr : M (List D)} (h : fr ρ = some (ds, ρ1)) (hs : szOk ds.length = true) : fTup fr ρ = some (.tup ds, ρ1) := by
  show (fr ρ).bind _ = _
  rw [h, Option.bind_some, if_pos hs]
theorem ret_ok {f : M D} (h : f ρ = some (d, ρ1)) : sRet f ρ = some (.rt d ρ1) := by
  show (f ρ).bind _ = _
  rw [h]
  rfl
theorem seq_it {f : M D} (h : f ρ = some (d, ρ1)) (h2 : itemsOf d = some ds) : iSeq f ρ = some (ds, ρ1) := by
  show (f ρ).bind _ = _
  rw [h, Option.bind_some, h2]
  rfl
theorem app_ok {i : Nat} {l : List D} {fr : M (List D)} {e : D} (h1 : Env.at ρ i = some (.lst true l)) (h2 : fr ρ = some ([e], ρ1)) (h3 : Env.at ρ1 i = some (.lst true l)) (h4 : szOk l.length = true) : sDrop (fMut i "list" gAppend fr) ρ = some (.nx (ρ1.set i (some (.lst true (l ++ [e]))))) := by
  show (fMut i "list" gAppend fr ρ).bind _ = _
  show (((Env.at ρ i).bind fun o => if tyIs "list" o = true then (fr ρ).bind fun p => (Env.at p.2 i).bind fun o' => (gAppend o' p.1).bind fun q => some (q.1, p.2.set i (some q.2)) else none).bind _) = _
  rw [h1, Option.bind_some, if_pos (show tyIs "list" (.lst true l) = true from rfl), h2, Option.bind_some]
  show (((Env.at ρ1 i).bind _).bind _) = _
  rw [h3, Option.bind_some]
  show (((if szOk l.length = true then some (D.non, D.lst true (l ++ [e])) else none : Option (D × D)).bind _).bind _) = _
  rw [if_pos h4]
  rfl
theorem aug_ok {i : Nat} {T : List Nat} {g : D → D → Option D} {f : M D} {o e : D} (h1 : Env.at ρ i = some o) (h2 : f ρ = some (d, ρ1)) (h3 : safe [i] T o = true) (h4 : g o d = some e) : sAug i T g f ρ = some (.nx (ρ1.set i (some e))) := by
  show (Env.at ρ i).bind _ = _
  rw [h1, Option.bind_some, h2, Option.bind_some, if_pos h3, h4]
  rfl
theorem frzL2 {x y : D} (h1 : x.frz = x) (h2 : y.frz = y) : D.frzL [x, y] = [x, y] := by
  show [x.frz, y.frz] = _
  rw [h1, h2]
theorem frzL1 {x : D} (h1 : x.frz = x) : D.frzL [x] = [x] := by
  show [x.frz] = _
  rw [h1]
theorem frzL3 {x y z : D} (h1 : x.frz = x) (h2 : y.frz = y) (h3 : z.frz = z) : D.frzL [x, y, z] = [x, y, z] := by
  show [x.frz, y.frz, z.frz] = _
  rw [h1, h2, h3]
theorem noL2 {x y : D} (h1 : x.noOwn = true) (h2 : y.noOwn = true) : D.noOwnL [x, y] = true := by
  show (x.noOwn && (y.noOwn && true)) = true
  rw [h1, h2]
  rfl
theorem noL1 {x : D} (h1 : x.noOwn = true) : D.noOwnL [x] = true := by
  show (x.noOwn && true) = true
  rw [h1]
  rfl
theorem noL3 {x y z : D} (h1 : x.noOwn = true) (h2 : y.noOwn = true) (h3 : z.noOwn = true) : D.noOwnL [x, y, z] = true := by
  show (x.noOwn && (y.noOwn && (z.noOwn && true))) = true
  rw [h1, h2, h3]
  rfl
end
end Vl

namespace Vl
open PySem PySem.Spec PyProof.Rows L2
section
variable {a b body : MS} {ρ ρ' ρ1 ρ2 : Vl.Env} {t : M Bool} {n : Nat} {fi : M (List D)} {g : D → Vl.Env → Option Vl.Env} {d : D} {ds : List D}
theorem set_to {i : Nat} {f : M D} (h : f ρ = some (d, ρ1)) (h2 : ρ1.set i (some d) = ρ2) : sSet i f ρ = some (.nx ρ2) := by
  rw [set_nx h, h2]
theorem app_to {i : Nat} {l : List D} {fr : M (List D)} {e : D} (h1 : Env.at ρ i = some (.lst true l)) (h2 : fr ρ = some ([e], ρ1)) (h3 : Env.at ρ1 i = some (.lst true l)) (h4 : szOk l.length = true) (h5 : ρ1.set i (some (.lst true (l ++ [e]))) = ρ2) : sDrop (fMut i "list" gAppend fr) ρ = some (.nx ρ2) := by
  rw [app_ok h1 h2 h3 h4, h5]
theorem aug_to {i : Nat} {T : List Nat} {g : D → D → Option D} {f : M D} {o e : D} (h1 : Env.at ρ i = some o) (h2 : f ρ = some (d, ρ1)) (h3 : safe [i] T o = true) (h4 : g o d = some e) (h5 : ρ1.set i (some e) = ρ2) : sAug i T g f ρ = some (.nx ρ2) := by
  rw [aug_ok h1 h2 h3 h4, h5]
end
end Vl

namespace Vl
open PySem PySem.Spec PyProof.Rows L2
section
variable {a b body : MS} {ρ ρ' ρ1 ρ2 : Vl.Env} {t : M Bool} {n : Nat} {fi : M (List D)} {g g1 g2 : D → Vl.Env → Option Vl.Env} {d d1 d2 : D} {ds : List D}
theorem tupRg_ok {fr : M (Int × Int)} {i j : Int} (h : fr ρ = some ((i, j), ρ1)) (h2 : okRg i j = true) : fTupRg fr ρ = some (.tup (rgItems i (j - i).toNat), ρ1) := by
  show (fr ρ).bind _ = _
  rw [h, Option.bind_some, if_pos h2]
theorem lstRg_ok {fr : M (Int × Int)} {i j : Int} (h : fr ρ = some ((i, j), ρ1)) (h2 : okRg i j = true) : fLstRg fr ρ = some (.lst true (rgItems i (j - i).toNat), ρ1) := by
  show (fr ρ).bind _ = _
  rw [h, Option.bind_some, if_pos h2]
theorem rRg2_ok {O1 T2 : List Nat} {fa fb : M D} {i j : Int} (h : fa ρ = some (.int i, ρ1)) (h2 : fb ρ1 = some (.int j, ρ2)) : rRg2 O1 T2 fa fb ρ = some ((i, j), ρ2) := by
  show (fa ρ).bind _ = _
  rw [h, Option.bind_some, h2]
  rfl
theorem tupRg3_ok {fr : M (List D)} {i : Int} {k : Nat} (h : fr ρ = some (ds, ρ1)) (h2 : downOf ds = some (i, k)) (h3 : k ≤ 100000) : fTupRg3 fr ρ = some (.tup (rgDown i k), ρ1) := by
  show (fr ρ).bind _ = _
  rw [h, Option.bind_some, h2, Option.bind_some, if_pos (decide_eq_true h3)]
theorem iRg1_ok {fr : M (List D)} {j : Int} (h : fr ρ = some ([.int j], ρ1)) (h2 : okR j = true) : iRg1 fr ρ = some (rgItems 0 j.toNat, ρ1) := by
  show (fr ρ).bind _ = _
  rw [h, Option.bind_some]
  show (if okR j = true then _ else none) = _
  rw [if_pos h2]
theorem iRg2_ok {fr : M (List D)} {i j : Int} (h : fr ρ = some ([.int i, .int j], ρ1)) (h1 : okR i = true) (h2 : okR j = true) : iRg2 fr ρ = some (rgItems i (j - i).toNat, ρ1) := by
  show (fr ρ).bind _ = _
  rw [h, Option.bind_some]
  show (if (okR i && okR j) = true then _ else none) = _
  rw [h1, h2, if_pos (by rfl)]
theorem asg_ok {f : M D} (h : f ρ = some (d, ρ1)) (hn : d.noOwn = true) (h2 : g d ρ1 = some ρ2) : sAsg g f ρ = some (.nx ρ2) := by
  show (f ρ).bind _ = _
  rw [h, Option.bind_some, if_pos hn, h2]
  rfl
theorem tp2_ok (h1 : g1 d1 ρ = some ρ1) (h2 : g2 d2 ρ1 = some ρ2) : gTp 2 (gsCons g1 (gsCons g2 gsNil)) (.tup [d1, d2]) ρ = some ρ2 := by
  show (if 2 = 2 then (g1 d1 ρ).bind _ else none) = _
  rw [if_pos rfl, h1, Option.bind_some]
  show (g2 d2 ρ1).bind _ = _
  rw [h2]
  rfl
theorem st_ok {i : Nat} {f : M D} {o0 o k v o' : D} (h0 : Env.at ρ i = some o0) (h1 : f ρ = some (k, ρ1)) (h2 : Env.at ρ1 i = some o) (h3 : gSet o k v = some o') (h4 : ρ1.set i (some o') = ρ2) : gSt i f v ρ = some ρ2 := by
  show (Env.at ρ i).bind _ = _
  rw [h0, Option.bind_some, h1, Option.bind_some, h2, Option.bind_some, h3, Option.bind_some, h4]
theorem ixl_ok {O1 T2 : List Nat} {fa fb : M D} {o : Bool} {l : List D} {j : Int} {r : D} (h1 : fa ρ = some (.lst o l, ρ1)) (h2 : fb ρ1 = some (.int j, ρ2)) (h3 : safe O1 T2 (.lst o l) = true) (h4 : L2.atI l j = some r) : fOp O1 T2 gIxA fa fb ρ = some (r, ρ2) := op_ok h1 h2 h3 h4
theorem ixt_ok {O1 T2 : List Nat} {fa fb : M D} {l : List D} {j : Int} {r : D} (h1 : fa ρ = some (.tup l, ρ1)) (h2 : fb ρ1 = some (.int j, ρ2)) (h3 : safe O1 T2 (.tup l) = true) (h4 : L2.atI l j = some r) : fOp O1 T2 gIxA fa fb ρ = some (r, ρ2) := op_ok h1 h2 h3 h4
theorem lst_ok {fr : M (List D)} (h : fr ρ = some (ds, ρ1)) (hs : szOk ds.length = true) : fLst fr ρ = some (.lst true ds, ρ1) := by
  show (fr ρ).bind _ = _
  rw [h, Option.bind_some, if_pos hs]
theorem tr_ok {f : M D} {k : Bool} (h : f ρ = some (d, ρ1)) (h2 : truth d = some k) : fTr f ρ = some (k, ρ1) := by
  show (f ρ).bind _ = _
  rw [h, Option.bind_some, h2]
  rfl
theorem run_at {np n : Nat} {b : MS} {ds : List D} {d : D} {ρ ρ0 : Vl.Env} (hl : ds.length = np) (e : ds.map some ++ List.replicate (n - np) none = ρ0) (h : b ρ0 = some (.rt d ρ)) : runF np 0 n b ds = some (d, []) := by
  subst e
  exact run_rt hl h
theorem nx_of (h : a ρ = some (.nx ρ1)) (e : ρ1 = ρ2) : a ρ = some (.nx ρ2) := by rw [h, e]
end
end Vl

namespace Pm
theorem perm_nd {α : Type} [DecidableEq α] : ∀ {l m : List α}, l.Nodup → m.Nodup → (∀ x, x ∈ l ↔ x ∈ m) → l.Perm m
  | [], m, _, _, h => by
    cases m with
    | nil => exact .nil
    | cons y r => exact absurd ((h y).mpr List.mem_cons_self) (by simp)
  | x :: r, m, hl, hm, h => by
    have hx : x ∈ m := (h x).mp List.mem_cons_self
    obtain ⟨h1, h2⟩ := List.nodup_cons.mp hl
    refine (List.Perm.cons x (perm_nd h2 (hm.erase x) fun y => ?_)).trans (List.perm_cons_erase hx).symm
    rw [hm.mem_erase_iff]
    constructor
    · intro hy
      exact ⟨fun e => h1 (e ▸ hy), (h y).mp (List.mem_cons_of_mem _ hy)⟩
    · rintro ⟨hne, hy⟩
      exact (List.mem_cons.mp ((h y).mpr hy)).resolve_left hne
/-- as many, all within: the same -/
theorem perm_len {α : Type} [DecidableEq α] : ∀ {l m : List α}, l.Nodup → (∀ x ∈ l, x ∈ m) → l.length = m.length → l.Perm m
  | [], m, _, _, h => by
    have : m = [] := List.eq_nil_of_length_eq_zero h.symm
    rw [this]
  | x :: r, m, hl, hs, h => by
    have hx : x ∈ m := hs x List.mem_cons_self
    obtain ⟨h1, h2⟩ := List.nodup_cons.mp hl
    refine (List.Perm.cons x (perm_len h2 (fun y hy => ?_) ?_)).trans (List.perm_cons_erase hx).symm
    · exact (List.mem_erase_of_ne (fun (e : y = x) => h1 (e ▸ hy))).mpr (hs y (List.mem_cons_of_mem _ hy))
    · rw [List.length_erase_of_mem hx, ← h, List.length_cons]; omega
theorem len_le {α : Type} [DecidableEq α] : ∀ {l m : List α}, l.Nodup → (∀ x ∈ l, x ∈ m) → l.length ≤ m.length
  | [], m, _, _ => Nat.zero_le _
  | x :: r, m, hl, hs => by
    have hx : x ∈ m := hs x List.mem_cons_self
    obtain ⟨h1, h2⟩ := List.nodup_cons.mp hl
    have := len_le (m := m.erase x) h2 (fun y hy => (List.mem_erase_of_ne (fun (e : y = x) => h1 (e ▸ hy))).mpr (hs y (List.mem_cons_of_mem _ hy)))
    rw [List.length_erase_of_mem hx] at this
    have : 0 < m.length := List.length_pos_of_mem hx
    rw [List.length_cons]
    omega
def ix (l : List Nat) (i : Nat) : Nat := l.getD i 0
theorem ix_get {l : List Nat} {i : Nat} (h : i < l.length) : ix l i = l[i] := by
  unfold ix
  rw [List.getD_eq_getElem?_getD, List.getElem?_eq_getElem h]
  rfl
theorem ix_some {l : List Nat} {i : Nat} (h : i < l.length) : l[i]? = some (ix l i) := by
  rw [List.getElem?_eq_getElem h, ix_get h]
theorem ix_of {l : List Nat} {i v : Nat} (h : l[i]? = some v) : ix l i = v := by
  unfold ix
  rw [List.getD_eq_getElem?_getD, h]
  rfl
theorem ext_ix {l m : List Nat} (h : l.length = m.length) (h2 : ∀ i, i < l.length → ix l i = ix m i) : l = m := by
  refine List.ext_getElem h fun i h1 h3 => ?_
  have := h2 i h1
  rwa [ix_get h1, ix_get h3] at this
theorem ix_map {f : Nat → Nat} {l : List Nat} {i : Nat} (h : i < l.length) : ix (l.map f) i = f (ix l i) := by
  rw [ix_get (by rw [List.length_map]; exact h), List.getElem_map, ix_get h]
theorem ix_range' {a n i : Nat} (h : i < n) : ix (List.range' a n) i = a + i := by
  rw [ix_get (by rw [List.length_range']; exact h), List.getElem_range']
  omega
theorem ix_range {n i : Nat} (h : i < n) : ix (List.range n) i = i := by
  rw [ix_get (by rw [List.length_range]; exact h), List.getElem_range]
theorem ix_set {l : List Nat} {k v i : Nat} (h : k < l.length) : ix (l.set k v) i = if i = k then v else ix l i := by
  unfold ix
  rw [List.getD_eq_getElem?_getD, List.getD_eq_getElem?_getD, List.getElem?_set]
  by_cases e : k = i
  · subst e; simp [h]
  · rw [if_neg e, if_neg (fun z => e z.symm)]
theorem mem_ix {l : List Nat} {x : Nat} (h : x ∈ l) : ∃ i, i < l.length ∧ ix l i = x := by
  obtain ⟨i, h1, h2⟩ := List.getElem_of_mem h
  exact ⟨i, h1, by rw [ix_get h1, h2]⟩
theorem ix_mem {l : List Nat} {i : Nat} (h : i < l.length) : ix l i ∈ l := by
  rw [ix_get h]; exact List.getElem_mem h

/-- an order of the numbers from 1 to n -/
structure IsP (n : Nat) (l : List Nat) : Prop where
  len : l.length = n
  inj : ∀ i j, i < n → j < n → ix l i = ix l j → i = j
  lo : ∀ i, i < n → 1 ≤ ix l i
  hi : ∀ i, i < n → ix l i ≤ n
theorem IsP.nd {n : Nat} {l : List Nat} (h : IsP n l) : l.Nodup := by
  rw [List.nodup_iff_pairwise_ne, List.pairwise_iff_getElem]
  intro i j hi hj hij e
  have := h.inj i j (by rw [← h.len]; exact hi) (by rw [← h.len]; exact hj) (by rw [ix_get hi, ix_get hj, e])
  omega
theorem IsP.perm {n : Nat} {l : List Nat} (h : IsP n l) : l.Perm (List.range' 1 n) := by
  refine perm_len h.nd (fun x hx => ?_) (by rw [h.len, List.length_range'])
  obtain ⟨i, h1, rfl⟩ := mem_ix hx
  rw [h.len] at h1
  have a := h.lo i h1
  have b := h.hi i h1
  rw [List.mem_range'_1]
  omega
theorem IsP.of_perm {n : Nat} {l : List Nat} (h : l.Perm (List.range' 1 n)) : IsP n l := by
  have hl : l.length = n := by rw [h.length_eq, List.length_range']
  have nd : l.Nodup := h.nodup_iff.mpr List.nodup_range'
  have mm : ∀ i, i < n → 1 ≤ ix l i ∧ ix l i ≤ n := fun i hi => by
    have := h.mem_iff.mp (ix_mem (l := l) (i := i) (by omega))
    rw [List.mem_range'_1] at this
    omega
  refine ⟨hl, fun i j hi hj e => ?_, fun i hi => (mm i hi).1, fun i hi => (mm i hi).2⟩
  rw [ix_get (by omega), ix_get (by omega)] at e
  have pw := List.pairwise_iff_getElem.mp (List.nodup_iff_pairwise_ne.mp nd)
  rcases Nat.lt_trichotomy i j with c | c | c
  · exact absurd e (pw i j (by omega) (by omega) c)
  · exact c
  · exact absurd e.symm (pw j i (by omega) (by omega) c)
theorem IsP.surj {n : Nat} {l : List Nat} (h : IsP n l) {v : Nat} (h1 : 1 ≤ v) (h2 : v ≤ n) : ∃ i, i < n ∧ ix l i = v := by
  have : v ∈ l := h.perm.mem_iff.mpr (by rw [List.mem_range'_1]; omega)
  obtain ⟨i, a, b⟩ := mem_ix this
  exact ⟨i, by rw [← h.len]; exact a, b⟩
theorem isP_id (n : Nat) : IsP n (List.range' 1 n) := .of_perm (List.Perm.refl _)

/-! ### two neighbours exchanged -/
def swp (l : List Nat) (k : Nat) : List Nat := (l.set k (ix l (k + 1))).set (k + 1) (ix l k)
def tr (k i : Nat) : Nat := if i = k then k + 1 else if i = k + 1 then k else i
theorem tr_tr (k i : Nat) : tr k (tr k i) = i := by
  unfold tr
  split <;> split <;> (try split) <;> omega
theorem tr_lt {k i n : Nat} (h : k + 1 < n) (hi : i < n) : tr k i < n := by
  unfold tr
  split <;> (try split) <;> omega
theorem swp_len (l : List Nat) (k : Nat) : (swp l k).length = l.length := by
  unfold swp; rw [List.length_set, List.length_set]
theorem ix_swp {l : List Nat} {k i : Nat} (h : k + 1 < l.length) : ix (swp l k) i = ix l (tr k i) := by
  unfold swp tr
  rw [ix_set (by rw [List.length_set]; exact h), ix_set (by omega)]
  by_cases e1 : i = k + 1
  · subst e1; rw [if_pos rfl, if_neg (by omega), if_pos rfl]
  · rw [if_neg e1]
    by_cases e2 : i = k
    · rw [if_pos e2, if_pos e2]
    · rw [if_neg e2, if_neg e2, if_neg e1]
theorem IsP.swp {n k : Nat} {l : List Nat} (h : IsP n l) (hk : k + 1 < n) : IsP n (swp l k) := by
  have hk' : k + 1 < l.length := by rw [h.len]; exact hk
  refine ⟨by rw [swp_len, h.len], fun i j hi hj e => ?_, fun i hi => ?_, fun i hi => ?_⟩
  · rw [ix_swp hk', ix_swp hk'] at e
    have := h.inj _ _ (tr_lt hk hi) (tr_lt hk hj) e
    rw [← tr_tr k i, this, tr_tr]
  · rw [ix_swp hk']; exact h.lo _ (tr_lt hk hi)
  · rw [ix_swp hk']; exact h.hi _ (tr_lt hk hi)

/-! ### the pairs turned round -/
def prs (l : List Nat) : List (Nat × Nat) := (List.range l.length).flatMap fun k => ((List.range k).filter fun j => decide (ix l k < ix l j)).map fun j => (j, k)
theorem mem_prs {l : List Nat} {j k : Nat} : (j, k) ∈ prs l ↔ k < l.length ∧ j < k ∧ ix l k < ix l j := by
  unfold prs
  rw [List.mem_flatMap]
  constructor
  · rintro ⟨k', h1, h2⟩
    obtain ⟨j', h3, e⟩ := List.mem_map.mp h2
    cases e
    obtain ⟨h4, h5⟩ := List.mem_filter.mp h3
    exact ⟨List.mem_range.mp h1, List.mem_range.mp h4, of_decide_eq_true h5⟩
  · rintro ⟨h1, h2, h3⟩
    exact ⟨k, List.mem_range.mpr h1, List.mem_map.mpr ⟨j, List.mem_filter.mpr ⟨List.mem_range.mpr h2, decide_eq_true h3⟩, rfl⟩⟩
theorem nd_flat {n : Nat} {f : Nat → List Nat} (h : ∀ k, (f k).Nodup) : ((List.range n).flatMap fun k => (f k).map fun j => (j, k)).Nodup := by
  rw [List.nodup_iff_pairwise_ne, List.pairwise_flatMap]
  refine ⟨fun k _ => ?_, ?_⟩
  · rw [List.pairwise_map]
    exact (List.nodup_iff_pairwise_ne.mp (h k)).imp fun ne e => ne (Prod.mk.inj e).1
  · refine (List.nodup_iff_pairwise_ne.mp List.nodup_range).imp fun {a b} ne x hx y hy e => ?_
    obtain ⟨u, _, rfl⟩ := List.mem_map.mp hx
    obtain ⟨v, _, rfl⟩ := List.mem_map.mp hy
    exact ne (Prod.mk.inj e).2
theorem nd_prs (l : List Nat) : (prs l).Nodup := nd_flat fun k => List.nodup_range.filter _
theorem nd_map {α β : Type} {f : α → β} {l : List α} (h : l.Nodup) (hf : ∀ x y, f x = f y → x = y) : (l.map f).Nodup := by
  rw [List.nodup_iff_pairwise_ne, List.pairwise_map]
  exact (List.nodup_iff_pairwise_ne.mp h).imp fun ne e => ne (hf _ _ e)
theorem npr_swp {l : List Nat} {k : Nat} (h : k + 1 < l.length) (hd : ix l (k + 1) < ix l k) : (prs (swp l k)).length + 1 = (prs l).length := by
  have p : ((k, k + 1) :: (prs (swp l k)).map fun p => (tr k p.1, tr k p.2)).Perm (prs l) := by
    refine perm_nd ?_ (nd_prs l) fun x => ?_
    · refine List.nodup_cons.mpr ⟨fun hm => ?_, nd_map (nd_prs _) fun x y e => ?_⟩
      · obtain ⟨⟨a, b⟩, h1, h2⟩ := List.mem_map.mp hm
        obtain ⟨_, h4, h5⟩ := mem_prs.mp h1
        have e1 : tr k a = k := (Prod.mk.inj h2).1
        have e2 : tr k b = k + 1 := (Prod.mk.inj h2).2
        have : a = k + 1 := by rw [← tr_tr k a, e1]; simp [tr]
        have : b = k := by rw [← tr_tr k b, e2]; simp [tr]
        omega
      · obtain ⟨a, b⟩ := x
        obtain ⟨c, d⟩ := y
        have e1 : tr k a = tr k c := (Prod.mk.inj e).1
        have e2 : tr k b = tr k d := (Prod.mk.inj e).2
        rw [← tr_tr k a, ← tr_tr k b, e1, e2, tr_tr, tr_tr]
    · obtain ⟨a, b⟩ := x
      rw [List.mem_cons, mem_prs]
      constructor
      · rintro (e | hm)
        · cases e; exact ⟨h, by omega, hd⟩
        · obtain ⟨⟨c, d⟩, h1, h2⟩ := List.mem_map.mp hm
          obtain ⟨h3, h4, h5⟩ := mem_prs.mp h1
          cases h2
          rw [swp_len] at h3
          rw [ix_swp h, ix_swp h] at h5
          refine ⟨tr_lt h h3, ?_, h5⟩
          by_cases e : c = k ∧ d = k + 1
          · obtain ⟨rfl, rfl⟩ := e
            simp [tr] at h5
            omega
          · unfold tr
            split <;> split <;> (try split) <;> (try split) <;> omega
      · rintro ⟨h3, h4, h5⟩
        by_cases e : a = k ∧ b = k + 1
        · obtain ⟨rfl, rfl⟩ := e; exact .inl rfl
        · refine .inr (List.mem_map.mpr ⟨(tr k a, tr k b), mem_prs.mpr ⟨by rw [swp_len]; exact tr_lt h h3, ?_, by rw [ix_swp h, ix_swp h, tr_tr, tr_tr]; exact h5⟩, by rw [tr_tr, tr_tr]⟩)
          unfold tr
          split <;> split <;> (try split) <;> (try split) <;> omega
  have := p.length_eq
  simpa using this

/-! ### the places where neighbours are turned round -/
def dsc (l : List Nat) : List Nat := (List.range (l.length - 1)).filter fun k => decide (ix l (k + 1) < ix l k)
theorem mem_dsc {l : List Nat} {k : Nat} : k ∈ dsc l ↔ k + 1 < l.length ∧ ix l (k + 1) < ix l k := by
  unfold dsc
  rw [List.mem_filter, List.mem_range, decide_eq_true_iff]
  constructor
  · rintro ⟨a, b⟩; exact ⟨by omega, b⟩
  · rintro ⟨a, b⟩; exact ⟨by omega, b⟩
theorem asc_of {l : List Nat} (h : dsc l = []) : ∀ d i, i + d < l.length → ix l i ≤ ix l (i + d)
  | 0, i, _ => Nat.le_refl _
  | d + 1, i, hi => by
    have h1 := asc_of h d i (by omega)
    have h2 : ¬ ix l (i + d + 1) < ix l (i + d) := fun z => by
      have : i + d ∈ dsc l := mem_dsc.mpr ⟨by omega, z⟩
      rw [h] at this
      cases this
    show ix l i ≤ ix l (i + d + 1)
    omega
theorem prs_nil {l : List Nat} (h : dsc l = []) : prs l = [] := by
  cases e : prs l with
  | nil => rfl
  | cons x r =>
    obtain ⟨j, k⟩ := x
    have : (j, k) ∈ prs l := by rw [e]; exact List.mem_cons_self
    obtain ⟨h1, h2, h3⟩ := mem_prs.mp this
    have := asc_of h (k - j) j (by omega)
    rw [show j + (k - j) = k by omega] at this
    omega
theorem dsc_nil {l : List Nat} (h : prs l = []) : dsc l = [] := by
  cases e : dsc l with
  | nil => rfl
  | cons k r =>
    have hm : k ∈ dsc l := by rw [e]; exact List.mem_cons_self
    obtain ⟨h1, h2⟩ := mem_dsc.mp hm
    have : (k, k + 1) ∈ prs l := mem_prs.mpr ⟨h1, by omega, h2⟩
    rw [h] at this
    cases this
/-- in order: the straight one -/
theorem IsP.straight {n : Nat} {l : List Nat} (h : IsP n l) (hd : dsc l = []) : l = List.range' 1 n := by
  have up : ∀ i, i + 1 < n → ix l i < ix l (i + 1) := fun i hi => by
    have h1 := asc_of hd 1 i (by rw [h.len]; exact hi)
    have h2 : ix l i ≠ ix l (i + 1) := fun e => by have := h.inj i (i + 1) (by omega) hi e; omega
    omega
  have lo : ∀ i, i < n → i + 1 ≤ ix l i := fun i => by
    induction i with
    | zero => intro hi; exact h.lo 0 hi
    | succ i ih => intro hi; have := ih (by omega); have := up i hi; omega
  have hi : ∀ d i, i + d + 1 = n → ix l i + d ≤ n := fun d => by
    induction d with
    | zero => intro i e; exact h.hi i (by omega)
    | succ d ih => intro i e; have := ih (i + 1) (by omega); have := up i (by omega); omega
  refine ext_ix (by rw [h.len, List.length_range']) fun i hi' => ?_
  rw [h.len] at hi'
  rw [ix_range' hi']
  have a := lo i hi'
  have b := hi (n - 1 - i) i (by omega)
  omega

/-! ### bubbling -/
def bub : Nat → List Nat → List Nat
  | 0, _ => []
  | m + 1, l => match dsc l with
    | [] => []
    | k :: _ => (k + 1) :: bub m (swp l k)
def endl : Nat → List Nat → List Nat
  | 0, l => l
  | m + 1, l => match dsc l with
    | [] => l
    | k :: _ => endl m (swp l k)
theorem bub_len : ∀ (m : Nat) (l : List Nat), (prs l).length = m → (bub m l).length = m
  | 0, _, _ => rfl
  | m + 1, l, h => by
    unfold bub
    cases e : dsc l with
    | nil => rw [prs_nil e] at h; cases h
    | cons k r =>
      obtain ⟨h1, h2⟩ := mem_dsc.mp (show k ∈ dsc l by rw [e]; exact List.mem_cons_self)
      have := npr_swp h1 h2
      simp only [List.length_cons]
      rw [bub_len m (swp l k) (by omega)]
theorem endl_ok {n : Nat} : ∀ (m : Nat) (l : List Nat), IsP n l → (prs l).length = m → endl m l = List.range' 1 n
  | 0, l, hp, h => hp.straight (dsc_nil (List.eq_nil_of_length_eq_zero h))
  | m + 1, l, hp, h => by
    unfold endl
    cases e : dsc l with
    | nil => rw [prs_nil e] at h; cases h
    | cons k r =>
      obtain ⟨h1, h2⟩ := mem_dsc.mp (show k ∈ dsc l by rw [e]; exact List.mem_cons_self)
      have := npr_swp h1 h2
      exact endl_ok m (swp l k) (hp.swp (by rw [hp.len] at h1; exact h1)) (by omega)
/-- the letters put to another list -/
def put (Q : List Nat) (ls : List Nat) : List Nat := ls.foldl (fun q s => swp q (s - 1)) Q
theorem put_bub {n : Nat} {l0 : List Nat} : ∀ (m : Nat) (l Q : List Nat), IsP n l → IsP n Q → (∀ i, i < n → ix l0 (ix Q i - 1) = ix l i) → IsP n (put Q (bub m l)) ∧ ∀ i, i < n → ix l0 (ix (put Q (bub m l)) i - 1) = ix (endl m l) i
  | 0, l, Q, _, hq, h => ⟨hq, h⟩
  | m + 1, l, Q, hp, hq, h => by
    unfold bub endl
    cases e : dsc l with
    | nil => exact ⟨hq, h⟩
    | cons k r =>
      obtain ⟨h1, h2⟩ := mem_dsc.mp (show k ∈ dsc l by rw [e]; exact List.mem_cons_self)
      have hk : k + 1 < n := by rw [hp.len] at h1; exact h1
      refine put_bub m (swp l k) (swp Q k) (hp.swp hk) (hq.swp hk) fun i hi => ?_
      rw [ix_swp (by rw [hq.len]; exact hk), ix_swp h1]
      exact h _ (tr_lt hk hi)
theorem bub_letters : ∀ (m : Nat) (l : List Nat), ∀ s ∈ bub m l, 1 ≤ s ∧ s < l.length
  | 0, _, s, h => by cases h
  | m + 1, l, s, h => by
    unfold bub at h
    cases e : dsc l with
    | nil => rw [e] at h; cases h
    | cons k r =>
      rw [e] at h
      obtain ⟨h1, h2⟩ := mem_dsc.mp (show k ∈ dsc l by rw [e]; exact List.mem_cons_self)
      rcases List.mem_cons.mp h with rfl | h
      · omega
      · have := bub_letters m (swp l k) s h
        rw [swp_len] at this
        exact this

/-! ### undone -/
def invN (a : List Nat) : Nat → List Nat
  | 0 => List.replicate a.length 0
  | m + 1 => (invN a m).set (ix a m - 1) (m + 1)
def inv (a : List Nat) : List Nat := invN a a.length
theorem invN_len (a : List Nat) : ∀ m, (invN a m).length = a.length
  | 0 => List.length_replicate
  | m + 1 => by unfold invN; rw [List.length_set, invN_len a m]
theorem inv_at {n : Nat} {a : List Nat} (h : IsP n a) : ∀ m, m ≤ n → ∀ k, k < m → ix (invN a m) (ix a k - 1) = k + 1
  | 0, _, k, hk => absurd hk (Nat.not_lt_zero _)
  | m + 1, hm, k, hk => by
    have a1 := h.lo m hm
    have a2 := h.hi m hm
    have b1 := h.lo k (by omega)
    have b2 := h.hi k (by omega)
    unfold invN
    rw [ix_set (by rw [invN_len, h.len]; omega)]
    by_cases e : k = m
    · subst e; rw [if_pos rfl]
    · rw [if_neg fun z => e (h.inj k m (by omega) hm (by omega))]
      exact inv_at h m (by omega) k (by omega)
theorem inv_len (a : List Nat) : (inv a).length = a.length := invN_len a _
theorem inv_ix {n : Nat} {a : List Nat} (h : IsP n a) {k : Nat} (hk : k < n) : ix (inv a) (ix a k - 1) = k + 1 := by
  unfold inv
  rw [h.len]
  exact inv_at h n (Nat.le_refl _) k hk
theorem inv_uniq {n : Nat} {a r : List Nat} (h : IsP n a) (hl : r.length = n) (hr : ∀ k, k < n → ix r (ix a k - 1) = k + 1) : r = inv a := by
  refine ext_ix (by rw [inv_len, hl, h.len]) fun i hi => ?_
  rw [hl] at hi
  obtain ⟨k, hk, e⟩ := h.surj (v := i + 1) (by omega) (by omega)
  have e2 : i = ix a k - 1 := by omega
  rw [e2, hr k hk, inv_ix h hk]
theorem IsP.inv {n : Nat} {a : List Nat} (h : IsP n a) : IsP n (inv a) := by
  have key : ∀ i, i < n → ∃ k, k < n ∧ i = ix a k - 1 ∧ ix (Pm.inv a) i = k + 1 := fun i hi => by
    obtain ⟨k, hk, e⟩ := h.surj (v := i + 1) (by omega) (by omega)
    have e2 : i = ix a k - 1 := by omega
    exact ⟨k, hk, e2, by rw [e2]; exact inv_ix h hk⟩
  refine ⟨by rw [inv_len, h.len], fun i j hi hj e => ?_, fun i hi => ?_, fun i hi => ?_⟩
  · obtain ⟨k, _, e1, e2⟩ := key i hi
    obtain ⟨k', _, e3, e4⟩ := key j hj
    have : k = k' := by omega
    subst this
    omega
  · obtain ⟨k, hk, _, e⟩ := key i hi; omega
  · obtain ⟨k, hk, _, e⟩ := key i hi; omega
/-- as many pairs turned round -/
theorem npr_inv {n : Nat} {a : List Nat} (h : IsP n a) : (prs (inv a)).length = (prs a).length := by
  have p : ((prs a).map fun p => (ix a p.2 - 1, ix a p.1 - 1)).Perm (prs (inv a)) := by
    refine perm_nd ?_ (nd_prs _) fun x => ?_
    · rw [List.nodup_iff_pairwise_ne, List.pairwise_map]
      refine List.Pairwise.imp_of_mem (fun {x y} hx hy ne e => ne ?_) (List.nodup_iff_pairwise_ne.mp (nd_prs a))
      obtain ⟨x1, x2⟩ := x
      obtain ⟨y1, y2⟩ := y
      obtain ⟨h1, h2, h3⟩ := mem_prs.mp hx
      obtain ⟨h4, h5, h6⟩ := mem_prs.mp hy
      rw [h.len] at h1 h4
      have e1 := (Prod.mk.inj e).1
      have e2 := (Prod.mk.inj e).2
      simp only at e1 e2
      have a1 := h.lo x1 (by omega); have a2 := h.lo x2 h1; have a3 := h.lo y1 (by omega); have a4 := h.lo y2 h4
      rw [h.inj x1 y1 (by omega) (by omega) (by omega), h.inj x2 y2 h1 h4 (by omega)]
    · obtain ⟨u, v⟩ := x
      rw [mem_prs, inv_len, h.len, List.mem_map]
      constructor
      · rintro ⟨⟨j, k⟩, h1, h2⟩
        obtain ⟨h3, h4, h5⟩ := mem_prs.mp h1
        rw [h.len] at h3
        cases h2
        have a1 := h.lo j (by omega); have a2 := h.lo k h3; have a3 := h.hi j (by omega)
        simp only
        rw [inv_ix h h3, inv_ix h (show j < n by omega)]
        omega
      · rintro ⟨h1, h2, h3⟩
        obtain ⟨k, hk, e⟩ := h.surj (v := v + 1) (by omega) (by omega)
        obtain ⟨j, hj, e'⟩ := h.surj (v := u + 1) (by omega) (by omega)
        have e2 : v = ix a k - 1 := by omega
        have e3 : u = ix a j - 1 := by omega
        rw [e2, e3, inv_ix h hk, inv_ix h hj] at h3
        refine ⟨(k, j), mem_prs.mpr ⟨by rw [h.len]; exact hj, by omega, by omega⟩, ?_⟩
        simp only
        rw [e2, e3]
  rw [← p.length_eq, List.length_map]
def allp (n : Nat) : List (Nat × Nat) := (List.range n).flatMap fun k => (List.range k).map fun j => (j, k)
theorem mem_allp {n j k : Nat} : (j, k) ∈ allp n ↔ k < n ∧ j < k := by
  unfold allp
  rw [List.mem_flatMap]
  constructor
  · rintro ⟨k', h1, h2⟩
    obtain ⟨j', h3, e⟩ := List.mem_map.mp h2
    cases e
    exact ⟨List.mem_range.mp h1, List.mem_range.mp h3⟩
  · rintro ⟨h1, h2⟩
    exact ⟨k, List.mem_range.mpr h1, List.mem_map.mpr ⟨j, List.mem_range.mpr h2, rfl⟩⟩
theorem len_allp : ∀ n, 2 * (allp n).length = n * (n - 1)
  | 0 => rfl
  | n + 1 => by
    have ih := len_allp n
    have e : allp (n + 1) = allp n ++ (List.range n).map fun j => (j, n) := by
      unfold allp
      rw [List.range_succ, List.flatMap_append]
      simp
    rw [e, List.length_append, List.length_map, List.length_range, Nat.mul_add, ih]
    cases n with
    | zero => rfl
    | succ m =>
      simp only [Nat.add_sub_cancel]
      have : (m + 1 + 1) * (m + 1) = (m + 1) * m + (m + 1) * 2 := by
        rw [← Nat.mul_add, Nat.mul_comm]
      rw [this]
      omega
/-- the order of what is left to the half twist -/
def rst (n : Nat) (a : List Nat) : List Nat := (inv a).map fun g => n + 1 - g
theorem npr_rst {n : Nat} {a : List Nat} (h : IsP n a) : 2 * ((prs a).length + (prs (rst n a)).length) = n * (n - 1) := by
  rw [← len_allp n, ← npr_inv h]
  have hi := h.inv
  have p : (prs (inv a) ++ prs (rst n a)).Perm (allp n) := by
    refine perm_nd (List.nodup_append.mpr ⟨nd_prs _, nd_prs _, fun x hx y hy e => ?_⟩) (nd_flat fun k => List.nodup_range) fun x => ?_
    · subst e
      obtain ⟨u, v⟩ := x
      obtain ⟨h1, h2, h3⟩ := mem_prs.mp hx
      obtain ⟨h4, h5, h6⟩ := mem_prs.mp hy
      rw [hi.len] at h1
      unfold rst at h6
      rw [ix_map (by rw [hi.len]; exact h1), ix_map (by rw [hi.len]; omega)] at h6
      have := hi.hi u (by omega)
      have := hi.hi v h1
      omega
    · obtain ⟨u, v⟩ := x
      rw [List.mem_append, mem_prs, mem_prs, mem_allp]
      have hl : (rst n a).length = n := by unfold rst; rw [List.length_map, hi.len]
      rw [hl, hi.len]
      constructor
      · rintro (⟨a1, a2, a3⟩ | ⟨a1, a2, a3⟩)
        · exact ⟨a1, a2⟩
        · exact ⟨a1, a2⟩
      · rintro ⟨a1, a2⟩
        have b1 := hi.hi u (by omega)
        have b2 := hi.hi v a1
        have ne : ix (inv a) u ≠ ix (inv a) v := fun e => by have := hi.inj u v (by omega) a1 e; omega
        by_cases c : ix (inv a) v < ix (inv a) u
        · exact .inl ⟨a1, a2, c⟩
        · refine .inr ⟨a1, a2, ?_⟩
          unfold rst
          rw [ix_map (by rw [hi.len]; exact a1), ix_map (by rw [hi.len]; omega)]
          omega
  have := p.length_eq
  rw [List.length_append] at this
  omega
end Pm

namespace G07
open PySem PySem.Spec PyProof.Rows L2 Vl Pm
def nsD (l : List Nat) : List D := (l.map Int.ofNat).map D.int
theorem nsD_len (l : List Nat) : (nsD l).length = l.length := by unfold nsD; rw [List.length_map, List.length_map]
theorem nsD_cons (t : Nat) (ts : List Nat) : nsD (t :: ts) = .int (t : Nat) :: nsD ts := rfl
theorem nsD_app (l m : List Nat) : nsD (l ++ m) = nsD l ++ nsD m := by unfold nsD; rw [List.map_append, List.map_append]
theorem nsD_map (l : List Nat) (f : Nat → Nat) : nsD (l.map f) = l.map fun k => D.int ((f k : Nat) : Int) := by unfold nsD; rw [List.map_map, List.map_map]; rfl
theorem nsD_eq (l : List Nat) : nsD l = l.map fun k => D.int ((k : Nat) : Int) := by unfold nsD; rw [List.map_map]; rfl
@[simp] theorem no_ns (l : List Nat) : D.noOwnL (nsD l) = true := noOwnL_ints _
@[simp] theorem nofz_ns (l : List Nat) : D.noFzL (nsD l) = true := noFzL_ints _
@[simp] theorem frz_ns (l : List Nat) : D.frzL (nsD l) = nsD l := frzL_ints _
@[simp] theorem frz_tns (l : List Nat) : D.frz (.tup (nsD l)) = .tup (nsD l) := congrArg D.tup (frz_ns l)
theorem mem_ns {l : List Nat} {d : D} (h : d ∈ nsD l) : ∃ k, k ∈ l ∧ d = .int (k : Nat) := by
  rw [nsD_eq] at h
  obtain ⟨k, h1, rfl⟩ := List.mem_map.mp h
  exact ⟨k, h1, rfl⟩
theorem atN {l : List Nat} {j : Int} (i : Nat) (e : j = (i : Nat)) (h : i < l.length) : L2.atI (nsD l) j = some (.int (ix l i : Nat)) := by
  subst e
  refine atI_i ?_
  rw [List.getElem?_map, ix_some h]
  rfl
theorem rg_ns (a n : Nat) : rgItems (a : Nat) n = nsD (List.range' a n) := by
  unfold rgItems
  rw [nsD_eq, List.range'_eq_map_range, List.map_map]
  refine List.map_congr_left fun i _ => ?_
  show D.int _ = D.int _
  congr 1
theorem rg0_ns (n : Nat) : rgItems 0 n = nsD (List.range n) := by
  have := rg_ns 0 n
  rw [← List.range_eq_range'] at this
  exact this
theorem set_ns (l : List Nat) (k v : Nat) : (nsD l).set k (.int (v : Nat)) = nsD (l.set k v) := by
  unfold nsD
  rw [List.map_set, List.map_set]
  rfl
theorem ixN_nat {n : Nat} {j : Int} (i : Nat) (e : j = (i : Nat)) (h : i < n) : L2.ixN n j = some i := by
  subst e
  unfold L2.ixN
  rw [if_pos (by omega), if_pos (by omega), Int.toNat_natCast]
theorem gSet_ns {l : List Nat} {j w : Int} (i v : Nat) (e : j = (i : Nat)) (ev : w = (v : Nat)) (h : i < l.length) : gSet (.lst true (nsD l)) (.int j) (.int w) = some (.lst true (nsD (l.set i v))) := by
  subst ev
  show (if D.noOwnL (nsD l) = true then (ixN (nsD l).length j).map fun k => D.lst true ((nsD l).set k (.int (v : Nat))) else none) = _
  rw [if_pos (no_ns l), nsD_len, ixN_nat i e h, Option.map_some, set_ns]
theorem comp_ns {i : Nat} {fi : M (List D)} {ft : M Bool} {fe : M D} {ρ0 ρ1 : Vl.Env} {l : List Nat} (p : Nat → Bool) (h : Nat → D) (hi : fi ρ0 = some (nsD l, ρ1)) (ho : ownOk ρ1 [i] = true) (ht : ∀ k ∈ l, ft (ρ1.set i (some (.int (k : Nat)))) = some (p k, ρ1.set i (some (.int (k : Nat)))))
    (he : ∀ k ∈ l, p k = true → fe (ρ1.set i (some (.int (k : Nat)))) = some (h k, ρ1.set i (some (.int (k : Nat))))) (hl : l.length ≤ 100000) : fComp [i] fi (gNm i) ft fe ρ0 = some (.lst true ((l.filter p).map h), ρ1) := by
  have e := fComp_pure (i := i) (ft := ft) (fe := fe) (fun d => match d with | .int z => p z.toNat | _ => false) (fun d => match d with | .int z => h z.toNat | _ => d) hi ho (fun d hd => ?_) (fun d hd hp => ?_) (by rw [nsD_len]; exact hl)
  · rw [e]
    congr 2
    congr 1
    rw [nsD_eq, List.filter_map, List.map_map]
    have e1 : ((fun d => match d with | D.int z => p z.toNat | _ => false) ∘ fun k : Nat => D.int (k : Nat)) = p := by
      funext k
      simp
    rw [e1]
    refine List.map_congr_left fun k _ => ?_
    simp
  · obtain ⟨k, hk, rfl⟩ := mem_ns hd
    simpa using ht k hk
  · obtain ⟨k, hk, rfl⟩ := mem_ns hd
    simpa using he k hk (by simpa using hp)
theorem comp_all {i : Nat} {fi : M (List D)} {fe : M D} {ρ0 ρ1 : Vl.Env} {l : List Nat} (h : Nat → D) (hi : fi ρ0 = some (nsD l, ρ1)) (ho : ownOk ρ1 [i] = true)
    (he : ∀ k ∈ l, fe (ρ1.set i (some (.int (k : Nat)))) = some (h k, ρ1.set i (some (.int (k : Nat))))) (hl : l.length ≤ 100000) : fComp [i] fi (gNm i) fYes fe ρ0 = some (.lst true (l.map h), ρ1) := by
  have := comp_ns (ft := fYes) (fun _ => true) h hi ho (fun _ _ => rfl) (fun k hk _ => he k hk) hl
  rwa [List.filter_eq_self.mpr fun _ _ => rfl] at this
theorem eokL_ints : ∀ ns : List Int, D.eokL (ns.map D.int) = true
  | [] => rfl
  | n :: r => by show (D.eok (.int n) && D.eokL (r.map D.int)) = true; rw [eokL_ints r]; rfl
theorem depL_ints : ∀ ns : List Int, D.depL (ns.map D.int) = 0
  | [] => by simp [D.depL]
  | n :: r => by simp [D.depL, D.dep, depL_ints r]
theorem eqvAll_ints : ∀ ns ns' : List Int, PyData.eqvAll (D.toPL (ns.map D.int)) (D.toPL (ns'.map D.int)) = decide (ns = ns')
  | [], [] => by simp [D.toPL, PyData.eqvAll]
  | [], _ :: _ => by simp [D.toPL, PyData.eqvAll]
  | _ :: _, [] => by simp [D.toPL, PyData.eqvAll]
  | a :: r, b :: s => by
    simp only [List.map_cons, D.toPL, D.toP, PyData.eqvAll, PyData.eqv, eqvAll_ints r s]
    by_cases h : a = b <;> by_cases h2 : r = s <;> simp [h, h2]
/-- lists, tuples of ints -/
inductive Row : D → List Int → Bool → Prop
  | tup (l : List Int) : Row (.tup (l.map D.int)) l true
  | xt (l : List Int) : Row (.xt (l.map D.int)) l true
  | lst (o : Bool) (l : List Int) : Row (.lst o (l.map D.int)) l false
theorem Row.ok {d : D} {l : List Int} {b : Bool} (r : Row d l b) : eqOk d = true := by
  unfold eqOk
  cases r <;> simp [D.eok, D.dep, eokL_ints, depL_ints]
theorem Row.eq {d e : D} {l m : List Int} {b : Bool} (r : Row d l b) (s : Row e m b) : pyEq d e = decide (l = m) := by
  unfold pyEq
  cases r <;> cases s <;> simp [D.toP, PyData.eqv, eqvAll_ints]
theorem Row.gNe {d e : D} {l m : List Int} {b : Bool} (r : Row d l b) (s : Row e m b) : Vl.gNe d e = some (.bl (!decide (l = m))) := by
  unfold Vl.gNe
  rw [r.ok, s.ok, r.eq s]
  rfl
theorem ne_same {d e : D} {l : List Int} {b : Bool} (r : Row d l b) (s : Row e l b) : Vl.gNe d e = some (.bl false) := by
  rw [r.gNe s, decide_eq_true rfl]
  rfl
theorem row_t (l : List Nat) : Row (.tup (nsD l)) (l.map Int.ofNat) true := .tup _
theorem row_x (l : List Nat) : Row (.xt (nsD l)) (l.map Int.ofNat) true := .xt _
theorem row_l (o : Bool) (l : List Nat) : Row (.lst o (nsD l)) (l.map Int.ofNat) false := .lst o _
theorem ofNat_inj {l m : List Nat} : (l.map Int.ofNat = m.map Int.ofNat) ↔ l = m := by
  constructor
  · intro h
    have := congrArg (List.map Int.toNat) h
    rw [List.map_map, List.map_map] at this
    have e : Int.toNat ∘ Int.ofNat = id := rfl
    rwa [e, List.map_id, List.map_id] at this
  · rintro rfl; rfl

/-! ### the program's small functions -/
theorem okR_n {j : Int} (h1 : 0 ≤ j) (h : j ≤ 1000000) : okR j = true := by
  unfold okR
  rw [decide_eq_true (by omega), decide_eq_true (by omega)]
  rfl
theorem okRg_n {i j : Int} (h1 : 0 ≤ i) (h2 : i ≤ 1000) (h3 : 0 ≤ j) (h : j ≤ 10000) : okRg i j = true := by
  unfold okRg
  rw [okR_n h1 (by omega), okR_n h3 (by omega), decide_eq_true (by omega)]
  rfl
theorem rg1_ns (n : Nat) : rgItems 1 n = nsD (List.range' 1 n) := rg_ns 1 n
end G07

namespace Vl
open PySem PySem.Spec PyProof.Rows L2
theorem forL_bk' {g : D → Vl.Env → Option Vl.Env} {body : MS} {d : D} {ds : List D} {ρ ρ1 ρ2 : Vl.Env} (h1 : g d ρ = some ρ1) (h2 : body ρ1 = some (.bk ρ2)) : forL g body (d :: ds) ρ = some (.nx ρ2) := forL_bk h1 h2
/-- a loop whose variable stands in slot i -/
theorem for_seq {i : Nat} {body : MS} : ∀ (ds : List D) (σ : Nat → Vl.Env) (x : Option D), (∀ k d, ds[k]? = some d → ∃ y, body ((σ k).set i (some d)) = some (.nx ((σ (k + 1)).set i y))) → ∃ y, forL (gNm i) body ds ((σ 0).set i x) = some (.nx ((σ ds.length).set i y))
  | [], σ, x, _ => ⟨x, rfl⟩
  | d :: ds, σ, x, h => by
    obtain ⟨y, hy⟩ := h 0 d rfl
    obtain ⟨z, hz⟩ := for_seq (i := i) (body := body) ds (fun k => σ (k + 1)) y fun k e he => h (k + 1) e he
    refine ⟨z, ?_⟩
    rw [forL_nx (ρ1 := (σ 0).set i (some d)) (by show some (((σ 0).set i x).set i (some d)) = _; rw [List.set_set]) hy]
    exact hz
end Vl
namespace G07
open PySem PySem.Spec PyProof.Rows L2 Vl Pm
theorem ns_get {l : List Nat} {k : Nat} {d : D} (h : (nsD l)[k]? = some d) : k < l.length ∧ d = .int (ix l k : Nat) := by
  rw [nsD_eq, List.getElem?_map] at h
  obtain ⟨v, h1, h2⟩ := Option.map_eq_some_iff.mp h
  exact ⟨(List.getElem?_eq_some_iff.mp h1).1, by rw [ix_of h1]; exact h2.symm⟩
/-- for k in range(n) -/
theorem for_rg {i n : Nat} {body : MS} (σ : Nat → Vl.Env) (x : Option D) (h : ∀ k, k < n → ∃ y, body ((σ k).set i (some (.int (k : Nat)))) = some (.nx ((σ (k + 1)).set i y))) : ∃ y, forL (gNm i) body (nsD (List.range n)) ((σ 0).set i x) = some (.nx ((σ n).set i y)) := by
  obtain ⟨y, hy⟩ := for_seq (i := i) (body := body) (nsD (List.range n)) σ x fun k d hd => by
    obtain ⟨h1, rfl⟩ := ns_get hd
    rw [List.length_range] at h1
    rw [ix_range h1]
    exact h k h1
  rw [nsD_len, List.length_range] at hy
  exact ⟨y, hy⟩
theorem for_ns {i : Nat} {body : MS} (l : List Nat) (σ : Nat → Vl.Env) (x : Option D) (h : ∀ k, k < l.length → ∃ y, body ((σ k).set i (some (.int (ix l k : Nat)))) = some (.nx ((σ (k + 1)).set i y))) : ∃ y, forL (gNm i) body (nsD l) ((σ 0).set i x) = some (.nx ((σ l.length).set i y)) := by
  obtain ⟨y, hy⟩ := for_seq (i := i) (body := body) (nsD l) σ x fun k d hd => by
    obtain ⟨h1, rfl⟩ := ns_get hd
    exact h k h1
  rw [nsD_len] at hy
  exact ⟨y, hy⟩
theorem rep_ns (n v : Nat) : (List.replicate n [D.int (v : Nat)]).flatten = nsD (List.replicate n v) := by
  induction n with
  | zero => rfl
  | succ n ih => rw [List.replicate_succ, List.flatten_cons, ih]; rfl
theorem gMul_rep (n : Nat) (h : n ≤ 1000) : gMul (.lst true [.int 0]) (.int (n : Nat)) = some (.lst true (nsD (List.replicate n 0))) := by
  have e : repOk 1 (n : Nat) = true := by
    unfold repOk
    simp
    omega
  show (if (repOk 1 (n : Nat) && D.noOwnL [.int 0]) = true then some (D.lst true (rep (n : Nat) [.int 0])) else none) = _
  rw [e, if_pos (by rfl)]
  unfold rep
  rw [Int.toNat_natCast]
  exact congrArg (fun l => some (D.lst true l)) (rep_ns n 0)
theorem gLen_ns (l : List Nat) : gLen [.tup (nsD l)] = some (.int (l.length : Nat)) := by rw [gLen_t, nsD_len]
theorem gLen_nl (o : Bool) (l : List Nat) : gLen [.lst o (nsD l)] = some (.int (l.length : Nat)) := by rw [gLen_l, nsD_len]
theorem gTuple_ns (o : Bool) (l : List Nat) : gTuple [.lst o (nsD l)] = some (.tup (nsD l)) := by
  show (if D.noOwnL (nsD l) = true then _ else none) = _
  rw [if_pos (no_ns _)]

/-! ### inverse -/
theorem IsP.rg {n : Nat} {a : List Nat} (h : IsP n a) : ∀ g ∈ a, 1 ≤ g ∧ g ≤ a.length := fun g hg => by
  obtain ⟨i, h1, rfl⟩ := mem_ix hg
  rw [h.len] at h1 ⊢
  exact ⟨h.lo i h1, h.hi i h1⟩
/-! ### flipped, rest_of -/
end G07

namespace Vl
open PySem PySem.Spec PyProof.Rows L2
section
variable {ρ ρ1 ρ2 : Vl.Env} {ds : List D}
theorem callM_ok {F : FD} {i : Nat} {fr : M (List D)} {o0 o o' r : D} (h0 : Env.at ρ i = some o0) (h1 : fr ρ = some (ds, ρ1)) (h2 : Env.at ρ1 i = some o) (h3 : D.noOwnL ds = true) (h4 : F (o :: ds) = some (r, [o'])) (h5 : ρ1.set i (some o') = ρ2) : fCallM F i fr ρ = some (r, ρ2) := by
  show (Env.at ρ i).bind _ = _
  rw [h0, Option.bind_some, h1, Option.bind_some, h2, Option.bind_some, if_pos h3, h4, ← h5]
  rfl
theorem mut_ok {i : Nat} {ty : String} {g : D → List D → Option (D × D)} {fr : M (List D)} {o0 o o' r : D} (h0 : Env.at ρ i = some o0) (ht : tyIs ty o0 = true) (h1 : fr ρ = some (ds, ρ1)) (h2 : Env.at ρ1 i = some o) (h4 : g o ds = some (r, o')) (h5 : ρ1.set i (some o') = ρ2) : fMut i ty g fr ρ = some (r, ρ2) := by
  show (Env.at ρ i).bind _ = _
  rw [h0, Option.bind_some, if_pos ht, h1, Option.bind_some, h2, Option.bind_some, h4, ← h5]
  rfl
theorem drop_ok {f : M D} {r : D} (h : f ρ = some (r, ρ1)) : sDrop f ρ = some (.nx ρ1) := by
  show (f ρ).bind _ = _
  rw [h]
  rfl
end
end Vl
namespace G07
open PySem PySem.Spec PyProof.Rows L2 Vl Pm
theorem gApp_ns (l : List Nat) (v : Nat) (h : l.length ≤ 100000) : gAppend (.lst true (nsD l)) [.int (v : Nat)] = some (.non, .lst true (nsD (l ++ [v]))) := by
  show (if szOk (nsD l).length = true then some (D.non, D.lst true (nsD l ++ [.int (v : Nat)])) else none) = _
  rw [nsD_len, if_pos (show szOk l.length = true from decide_eq_true h), nsD_app]
  rfl
theorem truth_ns (o : Bool) (l : List Nat) : truth (.lst o (nsD l)) = some (!l.isEmpty) := by
  cases l <;> rfl
/-! ### letters_of -/
theorem npr_le {n : Nat} {a : List Nat} (h : IsP n a) (hn : n ≤ 7) : (prs a).length ≤ 21 ∧ ((prs a).length < n * n ∨ n = 0) := by
  have e := npr_rst h
  have h2 : n * (n - 1) ≤ 7 * 6 := Nat.mul_le_mul hn (by omega)
  have h3 : n * (n - 1) + n = n * n ∨ n = 0 := by
    cases n with
    | zero => exact .inr rfl
    | succ m => exact .inl (by rw [Nat.add_sub_cancel, ← Nat.mul_succ])
  omega
/-! ### _law_pairs -/
def prsN (a : List Nat) (m : Nat) : List (Nat × Nat) := (List.range m).flatMap fun k => ((List.range k).filter fun j => decide (ix a k < ix a j)).map fun j => (j, k)
theorem prsN_succ (a : List Nat) (m : Nat) : prsN a (m + 1) = prsN a m ++ ((List.range m).filter fun j => decide (ix a m < ix a j)).map fun j => (j, m) := by
  unfold prsN
  rw [List.range_succ, List.flatMap_append]
  simp
theorem prsN_len (a : List Nat) : ∀ m, (prsN a m).length ≤ m * m
  | 0 => Nat.le_refl _
  | m + 1 => by
    have ih := prsN_len a m
    have := List.length_filter_le (fun j => decide (ix a m < ix a j)) (List.range m)
    rw [List.length_range] at this
    rw [prsN_succ, List.length_append, List.length_map, Nat.succ_mul, Nat.mul_succ]
    omega
def prD (L : List (Nat × Nat)) : List D := L.map fun p => .tup [.int (p.1 : Nat), .int (p.2 : Nat)]
@[simp] theorem no_pr (L : List (Nat × Nat)) : D.noOwnL (prD L) = true := by
  induction L with
  | nil => rfl
  | cons p r ih => exact ih
@[simp] theorem nofz_pr (L : List (Nat × Nat)) : D.noFzL (prD L) = true := by
  induction L with
  | nil => rfl
  | cons p r ih => exact ih
@[simp] theorem frz_pr (L : List (Nat × Nat)) : D.frzL (prD L) = prD L := by
  induction L with
  | nil => rfl
  | cons p r ih =>
    show D.frz (.tup [.int (p.1 : Nat), .int (p.2 : Nat)]) :: D.frzL (prD r) = _
    rw [ih]
    rfl
theorem prD_len (L : List (Nat × Nat)) : (prD L).length = L.length := List.length_map ..
theorem prD_app (L M : List (Nat × Nat)) : prD (L ++ M) = prD L ++ prD M := List.map_append ..
/-- a row that may be looked at by place -/
structure Seq (o : D) (a : List Nat) : Prop where
  ix : ∀ j : Int, gIxA o (.int j) = L2.atI (nsD a) j
  len : gLen [o] = some (.int (a.length : Nat))
  no : o.noOwn = true
  fz : o.frz = o
theorem seq_t (a : List Nat) : Seq (.tup (nsD a)) a := ⟨fun _ => rfl, gLen_ns a, no_ns a, frz_tns a⟩
theorem seq_f (a : List Nat) : Seq (.lst false (nsD a)) a := ⟨fun _ => rfl, gLen_nl false a, no_ns a, congrArg (D.lst false) (frz_ns a)⟩
end G07

namespace Vl
open PySem PySem.Spec PyProof.Rows L2
theorem pyEq_same {d : D} (h : eqOk d = true) : pyEq d d = true := by
  unfold eqOk at h
  rw [Bool.and_eq_true] at h
  exact PySem.SeqAt.eqv_refl _ (D.canLay h.1)
theorem gNe_same {d : D} (h : eqOk d = true) : gNe d d = some (.bl false) := by
  unfold gNe
  rw [h, pyEq_same h]
  rfl
theorem gEq_same {d : D} (h : eqOk d = true) : gEq d d = some (.bl true) := by
  unfold gEq
  rw [h, pyEq_same h]
  rfl
section
variable {ρ ρ1 ρ2 : Vl.Env} {ds : List D}
theorem un_ok {g : D → Option D} {f : M D} {d r : D} (h : f ρ = some (d, ρ1)) (h2 : g d = some r) : fUn g f ρ = some (r, ρ1) := by
  show (f ρ).bind _ = _
  rw [h, Option.bind_some, h2]
  rfl
theorem rev_it {f : M D} {d : D} (h : f ρ = some (d, ρ1)) (h2 : itemsOf d = some ds) : iRev f ρ = some (ds.reverse, ρ1) := by
  show (f ρ).bind _ = _
  rw [h, Option.bind_some, h2]
  rfl
theorem ifx_t {c : M Bool} {a b : M D} (h : c ρ = some (true, ρ1)) : fIf c a b ρ = a ρ1 := by
  show (c ρ).bind _ = _
  rw [h]
  rfl
theorem ifx_f {c : M Bool} {a b : M D} (h : c ρ = some (false, ρ1)) : fIf c a b ρ = b ρ1 := by
  show (c ρ).bind _ = _
  rw [h]
  rfl
theorem or_f {a b : M Bool} (h : a ρ = some (false, ρ1)) : fOr a b ρ = b ρ1 := by
  show (a ρ).bind _ = _
  rw [h]
  rfl
theorem and_t {a b : M Bool} (h : a ρ = some (true, ρ1)) : fAnd a b ρ = b ρ1 := by
  show (a ρ).bind _ = _
  rw [h]
  rfl
theorem and_f {a b : M Bool} (h : a ρ = some (false, ρ1)) : fAnd a b ρ = some (false, ρ1) := by
  show (a ρ).bind _ = _
  rw [h]
  rfl
theorem or_t {a b : M Bool} (h : a ρ = some (true, ρ1)) : fOr a b ρ = some (true, ρ1) := by
  show (a ρ).bind _ = _
  rw [h]
  rfl
theorem andv_t {a b : M D} (h : a ρ = some (.bl true, ρ1)) : fAndV a b ρ = b ρ1 := by
  show (fB a ρ).bind _ = _
  rw [b_ok h]
  rfl
theorem tuprev_ok {f : M D} {d : D} (h : f ρ = some (d, ρ1)) (h2 : itemsOf d = some ds) : fTupRev f ρ = some (.tup ds.reverse, ρ1) := by
  show (f ρ).bind _ = _
  rw [h, Option.bind_some, h2]
  rfl
theorem revS_ok {f : M D} {d r : D} (h : f ρ = some (d, ρ1)) (h2 : gRevS d = some r) : fRevS f ρ = some (r, ρ1) := by
  show (f ρ).bind _ = _
  rw [h, Option.bind_some, h2]
  rfl
theorem fz_ok {f : M D} {d : D} (h : f ρ = some (d, ρ1)) : fFz f ρ = some (d.frz, ρ1) := by
  show (f ρ).bind _ = _
  rw [h]
  rfl
theorem ali_ok {i : Nat} {d : D} (h : Env.at ρ i = some d) (hn : d.noOwn = true) : fAli i ρ = some (d, ρ) := by
  show (Env.at ρ i).bind _ = _
  rw [h, Option.bind_some, if_pos hn]
end
end Vl
namespace Vl
open PySem PySem.Spec PyProof.Rows L2
section
variable {ρ ρ1 ρ2 : Vl.Env} {ds : List D}
theorem var_ok {i : Nat} {d : D} (h : Env.at ρ i = some d) : fVar i ρ = some (d, ρ) := by
  show (Env.at ρ i).bind _ = _
  rw [h]
  rfl
theorem at_eq {i : Nat} {d d' : D} (h : Env.at ρ i = some d) : Env.at (ρ.set i (some d')) i = some d' := by
  have hl := Env.lt (Env.at_some h)
  unfold Env.at
  rw [List.getElem?_set_self hl]
theorem at_ne {i j : Nat} {x : Option D} (h : i ≠ j) : Env.at (ρ.set i x) j = Env.at ρ j := by
  unfold Env.at
  rw [List.getElem?_set_ne h]
end
end Vl
namespace Vl
open PySem PySem.Spec PyProof.Rows L2
theorem for_inv {i : Nat} {body : MS} (I : Nat → Vl.Env → Prop) : ∀ (ds : List D) (k : Nat) (ρ : Vl.Env), I k ρ → (∀ j d ρ, ds[j]? = some d → I (k + j) ρ → ∃ ρ', body (ρ.set i (some d)) = some (.nx ρ') ∧ I (k + j + 1) ρ') → ∃ ρ', forL (gNm i) body ds ρ = some (.nx ρ') ∧ I (k + ds.length) ρ'
  | [], k, ρ, h, _ => ⟨ρ, rfl, h⟩
  | d :: ds, k, ρ, h, hs => by
    obtain ⟨ρ1, h1, h2⟩ := hs 0 d ρ rfl h
    obtain ⟨ρ2, h3, h4⟩ := for_inv I ds (k + 1) ρ1 h2 fun j e ρ' he hi => by
      have := hs (j + 1) e ρ' he (by rw [show k + (j + 1) = k + 1 + j by omega]; exact hi)
      rw [show k + (j + 1) = k + 1 + j by omega] at this
      exact this
    refine ⟨ρ2, ?_, by rw [List.length_cons, show k + (ds.length + 1) = k + 1 + ds.length by omega]; exact h4⟩
    rw [forL_nx (ρ1 := ρ.set i (some d)) rfl h1]
    exact h3
end Vl
namespace Vl
open PySem PySem.Spec PyProof.Rows L2
theorem for_invG {g : D → Vl.Env → Option Vl.Env} {body : MS} (I : Nat → Vl.Env → Prop) : ∀ (ds : List D) (k : Nat) (ρ : Vl.Env), I k ρ → (∀ j d ρ, ds[j]? = some d → I (k + j) ρ → ∃ ρ1 ρ', g d ρ = some ρ1 ∧ body ρ1 = some (.nx ρ') ∧ I (k + j + 1) ρ') → ∃ ρ', forL g body ds ρ = some (.nx ρ') ∧ I (k + ds.length) ρ'
  | [], k, ρ, h, _ => ⟨ρ, rfl, h⟩
  | d :: ds, k, ρ, h, hs => by
    obtain ⟨ρ1, ρ2, h1, h2, h3⟩ := hs 0 d ρ rfl h
    obtain ⟨ρ3, h4, h5⟩ := for_invG I ds (k + 1) ρ2 h3 fun j e ρ' he hi => by
      have := hs (j + 1) e ρ' he (by rw [show k + (j + 1) = k + 1 + j by omega]; exact hi)
      rw [show k + (j + 1) = k + 1 + j by omega] at this
      exact this
    refine ⟨ρ3, ?_, by rw [List.length_cons, show k + (ds.length + 1) = k + 1 + ds.length by omega]; exact h5⟩
    rw [forL_nx h1 h2]
    exact h4
end Vl
namespace G07
open PySem PySem.Spec PyProof.Rows L2 Vl Pm
def brD (n : Int) (l : List Int) : D := .tup [.int n, .tup (l.map D.int)]
theorem no_t (l : List Int) : (D.tup (l.map D.int)).noOwn = true := noOwnL_ints l
theorem frz_t (l : List Int) : (D.tup (l.map D.int)).frz = .tup (l.map D.int) := congrArg D.tup (frzL_ints l)
theorem no_br (n : Int) (l : List Int) : (brD n l).noOwn = true := noL2 rfl (no_t l)
theorem frz_br (n : Int) (l : List Int) : (brD n l).frz = brD n l := congrArg D.tup (frzL2 rfl (frz_t l))
theorem items_t (l : List Int) : itemsOf (.tup (l.map D.int)) = some (l.map D.int) := if_pos (noOwnL_ints l)
theorem items_l (o : Bool) (l : List Int) : itemsOf (.lst o (l.map D.int)) = some (l.map D.int) := if_pos (noOwnL_ints l)
theorem eqOk_br (n : Int) (l : List Int) : eqOk (brD n l) = true := by
  unfold eqOk brD
  simp [D.eok, D.eokL, D.dep, D.depL, eokL_ints, depL_ints]
theorem eqOk_t (l : List Int) : eqOk (.tup (l.map D.int)) = true := by
  unfold eqOk
  simp [D.eok, D.dep, eokL_ints, depL_ints]
theorem gTuple_z (o : Bool) (l : List Int) : gTuple [.lst o (l.map D.int)] = some (.tup (l.map D.int)) := if_pos (noOwnL_ints l)
theorem gAdd_t {a b : List Int} (h : a.length + b.length ≤ 100000) : gAdd (.tup (a.map D.int)) (.tup (b.map D.int)) = some (.tup ((a ++ b).map D.int)) := by
  show (if (szOk ((a.map D.int).length + (b.map D.int).length) && D.noOwnL _ && D.noOwnL _) = true then some (D.tup (a.map D.int ++ b.map D.int)) else none) = _
  rw [List.length_map, List.length_map, show szOk (a.length + b.length) = true from decide_eq_true h, noOwnL_ints, noOwnL_ints, if_pos (by rfl), List.map_append]
theorem gAdd_l {o o' : Bool} {a b : List Int} (h : a.length + b.length ≤ 100000) : gAdd (.lst o (a.map D.int)) (.lst o' (b.map D.int)) = some (.lst true ((a ++ b).map D.int)) := by
  show (if (szOk ((a.map D.int).length + (b.map D.int).length) && D.noOwnL _ && D.noOwnL _) = true then some (D.lst true (a.map D.int ++ b.map D.int)) else none) = _
  rw [List.length_map, List.length_map, show szOk (a.length + b.length) = true from decide_eq_true h, noOwnL_ints, noOwnL_ints, if_pos (by rfl), List.map_append]
theorem comp_z {i : Nat} {fi : M (List D)} {fe : M D} {ρ0 ρ1 : Vl.Env} {l : List Int} (h : Int → Int) (hi : fi ρ0 = some (l.map D.int, ρ1)) (ho : ownOk ρ1 [i] = true)
    (he : ∀ x ∈ l, fe (ρ1.set i (some (.int x))) = some (.int (h x), ρ1.set i (some (.int x)))) (hl : l.length ≤ 100000) : fComp [i] fi (gNm i) fYes fe ρ0 = some (.lst true ((l.map h).map D.int), ρ1) := by
  have e := fComp_all (i := i) (fe := fe) (fun d => match d with | .int z => .int (h z) | _ => d) hi ho (fun d hd => by
    obtain ⟨x, hx, rfl⟩ := List.mem_map.mp hd
    exact he x hx) (by rw [List.length_map]; exact hl)
  rw [e, List.map_map, List.map_map]
  rfl
/-- the tuple of a comprehension -/
theorem comp_t {i : Nat} {fi : M (List D)} {fe : M D} {ρ0 ρ1 : Vl.Env} {l m : List Int} (h : Int → Int) (hi : fi ρ0 = some (l.map D.int, ρ1)) (ho : ownOk ρ1 [i] = true)
    (he : ∀ x ∈ l, fe (ρ1.set i (some (.int x))) = some (.int (h x), ρ1.set i (some (.int x)))) (hl : l.length ≤ 100000) (hm : l.map h = m) : fCl gTuple (fCons [] [] (fComp [i] fi (gNm i) fYes fe) fNil) ρ0 = some (.tup (m.map D.int), ρ1) := by
  subst hm
  exact cl_ok (cons_ok (comp_z h hi ho he hl) rfl rfl) (gTuple_z _ _)
theorem for_pre {i : Nat} {body : MS} (l : List Int) (σ : List Int → Vl.Env) (x : Option D) (h : ∀ p a q, l = p ++ a :: q → ∃ y, body ((σ p).set i (some (.int a))) = some (.nx ((σ (p ++ [a])).set i y))) : ∃ y, forL (gNm i) body (l.map D.int) ((σ []).set i x) = some (.nx ((σ l).set i y)) := by
  obtain ⟨y, hy⟩ := for_seq (i := i) (body := body) (l.map D.int) (fun k => σ (l.take k)) x fun k d hd => by
    rw [List.getElem?_map] at hd
    obtain ⟨a, h1, rfl⟩ := Option.map_eq_some_iff.mp hd
    have hk := (List.getElem?_eq_some_iff.mp h1).1
    have e : l = l.take k ++ a :: l.drop (k + 1) := by
      rw [← (List.getElem?_eq_some_iff.mp h1).2, ← List.drop_eq_getElem_cons hk, List.take_append_drop]
    obtain ⟨y, hy⟩ := h _ _ _ e
    refine ⟨y, ?_⟩
    rw [hy]
    have e2 : l.take (k + 1) = l.take k ++ [a] := by
      rw [List.take_succ, h1]
      rfl
    rw [e2]
  refine ⟨y, ?_⟩
  have e3 : l.take (l.map D.int).length = l := by rw [List.length_map, List.take_length]
  rw [e3] at hy
  exact hy
theorem cMul_l {i j : Int} (h : i.natAbs < 2 ^ 63) : cMul i j = true := by simp [cMul, h]
theorem sfor_pre {i : Nat} {body : MS} {fi : M (List D)} {ρ0 ρ1 : Vl.Env} (l : List Int) (σ : List Int → Vl.Env) (x : Option D) (hi : fi ρ0 = some (l.map D.int, ρ1)) (h0 : (σ []).set i x = ρ1) (h : ∀ p a q, l = p ++ a :: q → ∃ y, body ((σ p).set i (some (.int a))) = some (.nx ((σ (p ++ [a])).set i y))) : ∃ y, sFor fi (gNm i) body ρ0 = some (.nx ((σ l).set i y)) := by
  obtain ⟨y, hy⟩ := for_pre l σ x h
  rw [h0] at hy
  exact ⟨y, (for_it hi).trans hy⟩
theorem sfor_rg {i n : Nat} {body : MS} {fi : M (List D)} {ρ0 ρ1 : Vl.Env} (σ : Nat → Vl.Env) (x : Option D) (hi : fi ρ0 = some (nsD (List.range n), ρ1)) (h0 : (σ 0).set i x = ρ1) (h : ∀ k, k < n → ∃ y, body ((σ k).set i (some (.int (k : Nat)))) = some (.nx ((σ (k + 1)).set i y))) : ∃ y, sFor fi (gNm i) body ρ0 = some (.nx ((σ n).set i y)) := by
  obtain ⟨y, hy⟩ := for_rg σ x h
  rw [h0] at hy
  exact ⟨y, (for_it hi).trans hy⟩
theorem call1 {F : FD} {ρ : Vl.Env} {i : Nat} {x : Int} {r : D} (h : Env.at ρ i = some (.int x)) (hF : F [.int x] = some (r, [])) : fCall F (fCons [i] [] (fVar i) fNil) ρ = some (r, ρ) :=
  call_ok (cons_ok (show fVar i ρ = some (.int x, ρ) by show (Env.at ρ i).bind _ = _; rw [h]; rfl) rfl (by unfold safe; simp)) rfl rfl hF
theorem abs1 {ρ : Vl.Env} {i : Nat} {x : Int} (h : Env.at ρ i = some (.int x)) : fCl gAbs (fCons [i] [] (fVar i) fNil) ρ = some (.int (x.natAbs : Nat), ρ) := by
  refine cl_ok (cons_ok (show fVar i ρ = some (.int x, ρ) by show (Env.at ρ i).bind _ = _; rw [h]; rfl) rfl (by unfold safe; simp)) ?_
  show some (D.int (if x < 0 then -x else x)) = _
  congr 2
  split <;> omega
end G07

/-! Determinants of up to 5 rows, and what leaves their divisibility as it is: plain. -/
namespace Dt
def dt : Nat → (Nat → Nat → Int) → Int
  | 0, _ => 1
  | n + 1, M => ((List.range (n + 1)).map fun c => (if c % 2 = 0 then 1 else -1) * M 0 c * dt n (fun i j => M (i + 1) (if j < c then j else j + 1))).sum
abbrev Mx := Nat → Nat → Int
def setr (M : Mx) (t : Nat) (x : Nat → Int) : Mx := fun i j => if i = t then x j else M i j
theorem dt_congr : ∀ (k : Nat) (M M' : Mx), (∀ i j, i < k → j < k → M i j = M' i j) → dt k M = dt k M'
  | 0, _, _, _ => rfl
  | k + 1, M, M', h => by
    unfold dt
    congr 1
    refine List.map_congr_left fun c hc => ?_
    have hc := List.mem_range.mp hc
    rw [h 0 c (by omega) hc, dt_congr k _ _ fun i j hi hj => h (i + 1) _ (by omega) (by split <;> omega)]
theorem lin1 (M : Mx) (x y : Nat → Int) (c : Int) (t : Nat) (ht : t < 1) : dt 1 (setr M t fun j => x j + c * y j) = dt 1 (setr M t x) + c * dt 1 (setr M t y) := by
  have : t = 0 := by omega
  subst this
  simp [dt, setr, List.range_succ]
theorem lin2 (M : Mx) (x y : Nat → Int) (c : Int) (t : Nat) (ht : t < 2) : dt 2 (setr M t fun j => x j + c * y j) = dt 2 (setr M t x) + c * dt 2 (setr M t y) := by
  rcases (show t = 0 ∨ t = 1 by omega) with e | e <;> subst e <;> simp [dt, setr, List.range_succ] <;> grind
theorem lin3 (M : Mx) (x y : Nat → Int) (c : Int) (t : Nat) (ht : t < 3) : dt 3 (setr M t fun j => x j + c * y j) = dt 3 (setr M t x) + c * dt 3 (setr M t y) := by
  rcases (show t = 0 ∨ t = 1 ∨ t = 2 by omega) with e | e | e <;> subst e <;> simp [dt, setr, List.range_succ] <;> grind
theorem lin4 (M : Mx) (x y : Nat → Int) (c : Int) (t : Nat) (ht : t < 4) : dt 4 (setr M t fun j => x j + c * y j) = dt 4 (setr M t x) + c * dt 4 (setr M t y) := by
  rcases (show t = 0 ∨ t = 1 ∨ t = 2 ∨ t = 3 by omega) with e | e | e | e <;> subst e <;> simp [dt, setr, List.range_succ] <;> grind
theorem lin5 (M : Mx) (x y : Nat → Int) (c : Int) (t : Nat) (ht : t < 5) : dt 5 (setr M t fun j => x j + c * y j) = dt 5 (setr M t x) + c * dt 5 (setr M t y) := by
  rcases (show t = 0 ∨ t = 1 ∨ t = 2 ∨ t = 3 ∨ t = 4 by omega) with e | e | e | e | e <;> subst e <;> simp [dt, setr, List.range_succ] <;> grind
theorem lin {k : Nat} (hk : k ≤ 5) (M : Mx) (x y : Nat → Int) (c : Int) {t : Nat} (ht : t < k) : dt k (setr M t fun j => x j + c * y j) = dt k (setr M t x) + c * dt k (setr M t y) := by
  rcases (show k = 0 ∨ k = 1 ∨ k = 2 ∨ k = 3 ∨ k = 4 ∨ k = 5 by omega) with e | e | e | e | e | e <;> subst e
  · omega
  · exact lin1 M x y c t ht
  · exact lin2 M x y c t ht
  · exact lin3 M x y c t ht
  · exact lin4 M x y c t ht
  · exact lin5 M x y c t ht
theorem zero {k : Nat} (hk : k ≤ 5) (M : Mx) {t : Nat} (ht : t < k) : dt k (setr M t fun _ => 0) = 0 := by
  have e := lin hk M (fun _ => 0) (fun _ => 0) 1 ht
  have : (fun j : Nat => (0 : Int) + 1 * 0) = fun _ => 0 := by funext j; rfl
  rw [this] at e
  omega
theorem zero_row {k : Nat} (hk : k ≤ 5) {M : Mx} {t : Nat} (ht : t < k) (h : ∀ j, j < k → M t j = 0) : dt k M = 0 := by
  rw [← zero hk M ht]
  refine dt_congr k _ _ fun i j hi hj => ?_
  unfold setr
  by_cases e : i = t
  · rw [if_pos e, e, h j hj]
  · rw [if_neg e]
/-- two rows the same -/
theorem eq2 (M : Mx) (h : M 0 = M 1) : dt 2 M = 0 := by
  simp [dt, List.range_succ, h]
  grind
theorem eq3 (M : Mx) {a b : Nat} (hab : a < b) (hb : b < 3) (h : M a = M b) : dt 3 M = 0 := by
  rcases (show (a = 0 ∧ b = 1) ∨ (a = 0 ∧ b = 2) ∨ (a = 1 ∧ b = 2) by omega) with ⟨e, f⟩ | ⟨e, f⟩ | ⟨e, f⟩ <;> subst e <;> subst f <;> simp [dt, List.range_succ, h] <;> grind
theorem eq4 (M : Mx) {a b : Nat} (hab : a < b) (hb : b < 4) (h : M a = M b) : dt 4 M = 0 := by
  rcases (show (a = 0 ∧ b = 1) ∨ (a = 0 ∧ b = 2) ∨ (a = 0 ∧ b = 3) ∨ (a = 1 ∧ b = 2) ∨ (a = 1 ∧ b = 3) ∨ (a = 2 ∧ b = 3) by omega) with ⟨e, f⟩ | ⟨e, f⟩ | ⟨e, f⟩ | ⟨e, f⟩ | ⟨e, f⟩ | ⟨e, f⟩ <;> subst e <;> subst f <;> simp [dt, List.range_succ, h] <;> grind
theorem eq5 (M : Mx) {a b : Nat} (hab : a < b) (hb : b < 5) (h : M a = M b) : dt 5 M = 0 := by
  rcases (show (a = 0 ∧ b = 1) ∨ (a = 0 ∧ b = 2) ∨ (a = 0 ∧ b = 3) ∨ (a = 0 ∧ b = 4) ∨ (a = 1 ∧ b = 2) ∨ (a = 1 ∧ b = 3) ∨ (a = 1 ∧ b = 4) ∨ (a = 2 ∧ b = 3) ∨ (a = 2 ∧ b = 4) ∨ (a = 3 ∧ b = 4) by omega) with ⟨e, f⟩ | ⟨e, f⟩ | ⟨e, f⟩ | ⟨e, f⟩ | ⟨e, f⟩ | ⟨e, f⟩ | ⟨e, f⟩ | ⟨e, f⟩ | ⟨e, f⟩ | ⟨e, f⟩ <;> subst e <;> subst f <;> simp [dt, List.range_succ, h] <;> grind
theorem same {k : Nat} (hk : k ≤ 5) (M : Mx) {a b : Nat} (hab : a < b) (hb : b < k) (h : M a = M b) : dt k M = 0 := by
  rcases (show k = 0 ∨ k = 1 ∨ k = 2 ∨ k = 3 ∨ k = 4 ∨ k = 5 by omega) with e | e | e | e | e | e <;> subst e
  · omega
  · omega
  · have e1 : a = 0 := by omega
    have e2 : b = 1 := by omega
    subst e1
    subst e2
    exact eq2 M h
  · exact eq3 M hab hb h
  · exact eq4 M hab hb h
  · exact eq5 M hab hb h
/-- rows and columns exchanged -/
theorem turn {k : Nat} (hk : k ≤ 5) (M : Mx) : dt k (fun i j => M j i) = dt k M := by
  rcases (show k = 0 ∨ k = 1 ∨ k = 2 ∨ k = 3 ∨ k = 4 ∨ k = 5 by omega) with e | e | e | e | e | e <;> subst e
  · rfl
  · simp [dt, List.range_succ]
  · simp [dt, List.range_succ]
    grind
  · simp [dt, List.range_succ]
    grind
  · simp [dt, List.range_succ]
    grind
  · simp [dt, List.range_succ]
    grind
/-- neighbours exchanged, of up to 4 rows -/
def sw (t i : Nat) : Nat := if i = t then t + 1 else if i = t + 1 then t else i
theorem swap {k : Nat} (hk : k ≤ 4) (M : Mx) {t : Nat} (ht : t + 1 < k) : dt k (fun i j => M (sw t i) j) = - dt k M := by
  rcases (show (k = 2 ∧ t = 0) ∨ (k = 3 ∧ t = 0) ∨ (k = 3 ∧ t = 1) ∨ (k = 4 ∧ t = 0) ∨ (k = 4 ∧ t = 1) ∨ (k = 4 ∧ t = 2) by omega) with ⟨e, f⟩ | ⟨e, f⟩ | ⟨e, f⟩ | ⟨e, f⟩ | ⟨e, f⟩ | ⟨e, f⟩ <;> subst e <;> subst f <;> simp [dt, sw, List.range_succ] <;> grind
theorem unit {k : Nat} (hk : k ≤ 5) : dt k (fun i j => if i = j then 1 else 0) = 1 := by
  rcases (show k = 0 ∨ k = 1 ∨ k = 2 ∨ k = 3 ∨ k = 4 ∨ k = 5 by omega) with e | e | e | e | e | e <;> subst e <;> rfl
end Dt

namespace Dt
section
variable {p : Int} {m n k : Nat}
/-- all k by k determinants are divisible -/
def Van (p : Int) (k : Nat) (m n : Nat) (R : Mx) : Prop := ∀ I J : Nat → Nat, (∀ i, i < k → I i < m) → (∀ j, j < k → J j < n) → p ∣ dt k fun i j => R (I i) (J j)
/-- each row of F is made of two rows of G -/
def Two (p : Int) (m n : Nat) (F G : Mx) : Prop := ∀ i, i < m → ∃ (a b : Int) (s t : Nat), s < m ∧ t < m ∧ ∀ j, j < n → p ∣ F i j - (a * G s j + b * G t j)
theorem dvd_row (hk : k ≤ 5) (M : Mx) {t : Nat} (ht : t < k) (x y : Nat → Int) (h : ∀ j, j < k → p ∣ x j - y j) : p ∣ dt k (setr M t x) - dt k (setr M t y) := by
  have e : dt k (setr M t x) = dt k (setr M t fun j => y j + p * ((x j - y j) / p)) := dt_congr k _ _ fun i j hi hj => by
    unfold setr
    by_cases q : i = t
    · rw [if_pos q, if_pos q]
      show x j = y j + p * ((x j - y j) / p)
      rw [Int.mul_ediv_cancel' (h j hj)]
      omega
    · rw [if_neg q, if_neg q]
  rw [e, lin hk M y _ p ht]
  exact ⟨_, by rw [Int.add_comm, Int.add_sub_cancel]⟩
theorem van_two (hk : k ≤ 5) {F G : Mx} (hG : Van p k m n G) (h : Two p m n F G) : Van p k m n F := by
  intro I J hI hJ
  have key : ∀ t, t ≤ k → ∀ I' : Nat → Nat, (∀ i, i < k → I' i < m) → p ∣ dt k fun i j => if i < t then F (I' i) (J j) else G (I' i) (J j) := by
    intro t
    induction t with
    | zero =>
      intro _ I' h'
      have := hG I' J h' hJ
      simpa using this
    | succ t ih =>
      intro ht I' h'
      obtain ⟨a, b, s, u, hs, hu, e⟩ := h (I' t) (h' t (by omega))
      let N : Mx := fun i j => if i < t then F (I' i) (J j) else G (I' i) (J j)
      have n1 : ∀ v, v < m → p ∣ dt k (setr N t fun j => G v (J j)) := fun v hv => by
        have q := ih (by omega) (fun i => if i = t then v else I' i) fun i hi => by
          show (if i = t then v else I' i) < m
          split
          · exact hv
          · exact h' i hi
        refine (dt_congr k _ _ fun i j hi hj => ?_) ▸ q
        unfold setr
        show (if i < t then F (if i = t then v else I' i) (J j) else G (if i = t then v else I' i) (J j)) = if i = t then G v (J j) else if i < t then F (I' i) (J j) else G (I' i) (J j)
        by_cases q : i = t
        · subst q
          simp
        · simp [q]
      have n2 : dt k (fun i j => if i < t + 1 then F (I' i) (J j) else G (I' i) (J j)) = dt k (setr N t fun j => F (I' t) (J j)) := dt_congr k _ _ fun i j hi hj => by
        unfold setr
        show _ = if i = t then F (I' t) (J j) else if i < t then F (I' i) (J j) else G (I' i) (J j)
        by_cases q : i = t
        · subst q
          simp
        · by_cases r : i < t
          · simp [q, r, show i < t + 1 by omega]
          · simp [q, r, show ¬ i < t + 1 by omega]
      rw [n2]
      have n3 := dvd_row (p := p) hk N (show t < k by omega) (fun j => F (I' t) (J j)) (fun j => a * G s (J j) + b * G u (J j)) fun j hj => e (J j) (hJ j hj)
      have n4 : dt k (setr N t fun j => a * G s (J j) + b * G u (J j)) = a * dt k (setr N t fun j => G s (J j)) + b * dt k (setr N t fun j => G u (J j)) := by
        have l1 := lin hk N (fun j => a * G s (J j)) (fun j => G u (J j)) b (show t < k by omega)
        have l2 := lin hk N (fun _ => 0) (fun j => G s (J j)) a (show t < k by omega)
        rw [zero hk N (show t < k by omega)] at l2
        have e0 : (fun j => (0 : Int) + a * G s (J j)) = fun j => a * G s (J j) := by funext j; omega
        rw [e0] at l2
        omega
      rw [n4] at n3
      obtain ⟨c1, e1⟩ := n1 s hs
      obtain ⟨c2, e2⟩ := n1 u hu
      obtain ⟨c3, e3⟩ := n3
      rw [e1, e2] at e3
      exact ⟨c3 + (a * c1 + b * c2), by grind⟩
  have q := key k (Nat.le_refl _) I hI
  refine (dt_congr k _ _ fun i j hi hj => ?_) ▸ q
  rw [if_pos hi]
/-- what is left at the end of making zeros -/
structure End (p : Int) (m n r : Nat) (R : Mx) (q : Nat → Nat) : Prop where
  rm : r ≤ m
  qn : ∀ i, i < r → q i < n
  piv : ∀ i' i, i' < m → i < r → R i' (q i) = if i' = i then 1 else 0
  low : ∀ i, r ≤ i → i < m → ∀ j, j < n → R i j = 0
theorem dt_id {R : Mx} (hk : k ≤ 5) (h : ∀ i j, i < k → j < k → R i j = if i = j then 1 else 0) : dt k R = 1 := by
  rw [dt_congr k R (fun i j => if i = j then 1 else 0) h, unit hk]
theorem pigeon : ∀ (k r : Nat) (I : Nat → Nat), r < k → (∀ i, i < k → I i < r) → ∃ a b, a < b ∧ b < k ∧ I a = I b
  | 0, r, I, h, _ => by omega
  | k + 1, 0, I, _, h => by have := h 0 (by omega); omega
  | k + 1, r + 1, I, h, hI => by
    by_cases c : ∃ a, a < k ∧ I a = I k
    · obtain ⟨a, h1, h2⟩ := c
      exact ⟨a, k, h1, by omega, h2⟩
    · have hk := hI k (by omega)
      obtain ⟨a, b, h1, h2, h3⟩ := pigeon k r (fun i => if I i < I k then I i else I i - 1) (by omega) fun i hi => by
        have := hI i (by omega)
        have ne : I i ≠ I k := fun e => c ⟨i, hi, e⟩
        show (if I i < I k then I i else I i - 1) < r
        split <;> omega
      refine ⟨a, b, h1, by omega, ?_⟩
      have h3 : (if I a < I k then I a else I a - 1) = (if I b < I k then I b else I b - 1) := h3
      have na : I a ≠ I k := fun e => c ⟨a, by omega, e⟩
      have nb : I b ≠ I k := fun e => c ⟨b, by omega, e⟩
      split at h3 <;> split at h3 <;> omega
theorem End.van (hp : 1 < p) (hk : k ≤ 5) {r : Nat} {R : Mx} {q : Nat → Nat} (E : End p m n r R q) : Van p k m n R ↔ r < k := by
  constructor
  · intro V
    refine Nat.lt_of_not_le fun h => ?_
    have d := V (fun i => i) q (fun i hi => by have := E.rm; show i < m; omega) fun j hj => E.qn j (by omega)
    rw [dt_id hk fun i j hi hj => E.piv i j (by have := E.rm; omega) (by omega)] at d
    have := Int.le_of_dvd (by decide) d
    omega
  · intro h I J hI hJ
    by_cases c : ∃ i, i < k ∧ r ≤ I i
    · obtain ⟨i, h1, h2⟩ := c
      rw [zero_row hk (t := i) h1 fun j hj => E.low _ h2 (hI i h1) _ (hJ j hj)]
      exact Int.dvd_zero p
    · obtain ⟨a, b, h1, h2, h3⟩ := pigeon k r I h fun i hi => Nat.lt_of_not_le fun z => c ⟨i, hi, z⟩
      rw [same hk _ h1 h2 (by funext j; show R (I a) (J j) = R (I b) (J j); rw [h3])]
      exact Int.dvd_zero p
/-- .. of the matrix turned -/
theorem van_turn (hk : k ≤ 5) {A : Mx} : Van p k n m (fun i j => A j i) ↔ Van p k m n A := by
  constructor
  · intro V I J hI hJ
    have := V J I hJ hI
    rw [← turn hk]
    exact this
  · intro V I J hI hJ
    have := V J I hJ hI
    rw [← turn hk]
    exact this
/-- it is enough to look at rows and columns in order -/
def Asc (k : Nat) (I : Nat → Nat) : Prop := ∀ i, i + 1 < k → I i < I (i + 1)
theorem not_asc {I : Nat → Nat} (h : ¬ Asc k I) : ∃ t, t + 1 < k ∧ I (t + 1) ≤ I t := by
  refine Classical.byContradiction fun c => h fun i hi => Nat.lt_of_not_le fun z => c ⟨i, hi, z⟩
def ws (k : Nat) (I : Nat → Nat) : Nat := (if 1 < k then I 1 else 0) + 2 * (if 2 < k then I 2 else 0) + 3 * (if 3 < k then I 3 else 0)
theorem ws_le {I : Nat → Nat} (hI : ∀ i, i < k → I i < m) (h : 0 < k) : ws k I < 6 * m := by
  unfold ws
  have h0 := hI 0 h
  have h1 : (if 1 < k then I 1 else 0) < m := by
    split
    · exact hI 1 (by assumption)
    · omega
  have h2 : (if 2 < k then I 2 else 0) < m := by
    split
    · exact hI 2 (by assumption)
    · omega
  have h3 : (if 3 < k then I 3 else 0) < m := by
    split
    · exact hI 3 (by assumption)
    · omega
  omega
theorem ws_sw (hk : k ≤ 4) {I : Nat → Nat} {t : Nat} (ht : t + 1 < k) (h : I (t + 1) < I t) : ws k I < ws k fun i => I (sw t i) := by
  rcases (show (k = 2 ∧ t = 0) ∨ (k = 3 ∧ t = 0) ∨ (k = 3 ∧ t = 1) ∨ (k = 4 ∧ t = 0) ∨ (k = 4 ∧ t = 1) ∨ (k = 4 ∧ t = 2) by omega) with ⟨e, f⟩ | ⟨e, f⟩ | ⟨e, f⟩ | ⟨e, f⟩ | ⟨e, f⟩ | ⟨e, f⟩ <;> subst e <;> subst f <;> simp [ws, sw] at h ⊢ <;> omega
theorem sw_lt {t i : Nat} (ht : t + 1 < k) (hi : i < k) : sw t i < k := by
  unfold sw
  split
  · omega
  · split <;> omega
theorem van_rows (hk : k ≤ 4) {A : Mx} {J : Nat → Nat} (h : ∀ I, Asc k I → (∀ i, i < k → I i < m) → p ∣ dt k fun i j => A (I i) (J j)) : ∀ (d : Nat) (I : Nat → Nat), (∀ i, i < k → I i < m) → 6 * m ≤ d + ws k I → p ∣ dt k fun i j => A (I i) (J j) := by
  intro d
  induction d with
  | zero =>
    intro I hI hd
    by_cases c : Asc k I
    · exact h I c hI
    · obtain ⟨t, ht, _⟩ := not_asc c
      have := ws_le hI (by omega)
      omega
  | succ d ih =>
    intro I hI hd
    by_cases c : Asc k I
    · exact h I c hI
    · obtain ⟨t, ht, hl⟩ := not_asc c
      rcases Nat.lt_or_eq_of_le hl with hl | hl
      · have q := ih (fun i => I (sw t i)) (fun i hi => hI _ (sw_lt ht hi)) (by have := ws_sw hk ht hl; omega)
        have e := swap hk (fun i j => A (I i) (J j)) ht
        have e : dt k (fun i j => A (I (sw t i)) (J j)) = - dt k fun i j => A (I i) (J j) := e
        rw [e] at q
        exact (Int.dvd_neg).mp q
      · rw [same (by omega) _ (show t < t + 1 by omega) ht (by funext j; show A (I t) (J j) = A (I (t + 1)) (J j); rw [hl])]
        exact Int.dvd_zero p
theorem van_asc (hk : k ≤ 4) {A : Mx} (h : ∀ I J, Asc k I → Asc k J → (∀ i, i < k → I i < m) → (∀ j, j < k → J j < n) → p ∣ dt k fun i j => A (I i) (J j)) : Van p k m n A := by
  intro I J hI hJ
  refine van_rows (m := m) hk (fun I aI hI => ?_) (6 * m) I hI (by omega)
  have q := van_rows (m := n) (p := p) hk (A := fun i j => A j i) (J := I) (fun J aJ hJ => by
    have := h I J aI aJ hI hJ
    rw [← turn (by omega)]
    exact this) (6 * n) J hJ (by omega)
  rw [← turn (by omega)]
  exact q
end
end Dt

namespace Dt
section
variable {p : Int} {m n : Nat}
/-- what rows make, modulo p -/
inductive Sp (p : Int) (m n : Nat) (F : Mx) : (Nat → Int) → Prop
  | zero (v : Nat → Int) : (∀ j, j < n → p ∣ v j) → Sp p m n F v
  | add (v w : Nat → Int) (i : Nat) (c : Int) : Sp p m n F v → i < m → (∀ j, j < n → p ∣ w j - (v j + c * F i j)) → Sp p m n F w
theorem Sp.two {F G : Mx} (h : Two p m n F G) {v : Nat → Int} (s : Sp p m n F v) : Sp p m n G v := by
  induction s with
  | zero v hv => exact .zero v hv
  | add v w i c _ hi e ih =>
    obtain ⟨a, b, s, t, hs, ht, q⟩ := h i hi
    refine .add (fun j => v j + (c * a) * G s j) w t (c * b) (.add v _ s (c * a) ih hs fun j _ => by rw [Int.sub_self]; exact Int.dvd_zero p) ht fun j hj => ?_
    obtain ⟨x, hx⟩ := e j hj
    obtain ⟨y, hy⟩ := q j hj
    exact ⟨x + c * y, by grind⟩
theorem Sp.congr {F : Mx} {v w : Nat → Int} (s : Sp p m n F v) (h : ∀ j, j < n → p ∣ w j - v j) : Sp p m n F w := by
  cases s with
  | zero v hv =>
    refine .zero w fun j hj => ?_
    obtain ⟨x, hx⟩ := h j hj
    obtain ⟨y, hy⟩ := hv j hj
    exact ⟨x + y, by grind⟩
  | add u v i c su hi e =>
      refine .add u w i c su hi fun j hj => ?_
      obtain ⟨x, hx⟩ := h j hj
      obtain ⟨y, hy⟩ := e j hj
      exact ⟨x + y, by grind⟩
/-! ### a step of making zeros -/
def trn (r f i : Nat) : Nat := if i = r then f else if i = f then r else i
def g1 (F : Mx) (r f : Nat) : Mx := fun i j => F (trn r f i) j
def g2 (p : Int) (F : Mx) (r : Nat) (l : Int) : Mx := fun i j => if i = r then F r j * l % p else F i j
def g3 (p : Int) (F : Mx) (r c : Nat) : Mx := fun i j => if i = r then F r j else (F i j - F i c * F r j) % p
def gs (p : Int) (F : Mx) (r f c : Nat) (l : Int) : Mx := g3 p (g2 p (g1 F r f) r l) r c
theorem trn_lt {r f i : Nat} (hr : r < m) (hf : f < m) (hi : i < m) : trn r f i < m := by
  unfold trn
  split
  · exact hf
  · split
    · exact hr
    · exact hi
theorem trn_trn (r f i : Nat) : trn r f (trn r f i) = i := by
  unfold trn
  split <;> split <;> (try split) <;> omega
theorem dvd_emod (x p : Int) : p ∣ x % p - x := ⟨-(x / p), by have := Int.emod_add_mul_ediv x p; grind⟩
theorem gs_r (p : Int) (F : Mx) (r f c : Nat) (l : Int) (j : Nat) : gs p F r f c l r j = F f j * l % p := by
  unfold gs g3 g2 g1 trn
  simp
theorem gs_i (p : Int) (F : Mx) {r f c i : Nat} (l : Int) (j : Nat) (h : i ≠ r) : gs p F r f c l i j = (F (trn r f i) j - F (trn r f i) c * (F f j * l % p)) % p := by
  unfold gs g3 g2 g1
  have e : trn r f r = f := by unfold trn; simp
  simp [h, e]
theorem gs_two (F : Mx) {r f c : Nat} {l : Int} (hr : r < m) (hf : f < m) : Two p m n (gs p F r f c l) F := by
  intro i hi
  by_cases h : i = r
  · subst h
    refine ⟨l, 0, f, f, hf, hf, fun j hj => ?_⟩
    rw [gs_r]
    obtain ⟨x, hx⟩ := dvd_emod (F f j * l) p
    exact ⟨x, by grind⟩
  · refine ⟨1, -(F (trn r f i) c * l), trn r f i, f, trn_lt hr hf hi, hf, fun j hj => ?_⟩
    rw [gs_i p F l j h]
    obtain ⟨x, hx⟩ := dvd_emod (F (trn r f i) j - F (trn r f i) c * (F f j * l % p)) p
    obtain ⟨y, hy⟩ := dvd_emod (F f j * l) p
    exact ⟨x - F (trn r f i) c * y, by grind⟩
theorem gs_back (F : Mx) {r f c : Nat} {l : Int} (hr : r < m) (hf : f < m) (hl : p ∣ l * F f c - 1) : Two p m n F (gs p F r f c l) := by
  intro i hi
  by_cases h : trn r f i = r
  · have e : i = f := by
      have := trn_trn r f i
      rw [h] at this
      rw [← this]
      unfold trn
      simp
    subst e
    refine ⟨F i c, 0, r, r, hr, hr, fun j hj => ?_⟩
    rw [gs_r]
    obtain ⟨x, hx⟩ := dvd_emod (F i j * l) p
    obtain ⟨y, hy⟩ := hl
    exact ⟨-(F i c * x) - F i j * y, by grind⟩
  · refine ⟨1, F i c, trn r f i, r, trn_lt hr hf hi, hr, fun j hj => ?_⟩
    rw [gs_i p F l j h, trn_trn, gs_r]
    obtain ⟨x, hx⟩ := dvd_emod (F i j - F i c * (F f j * l % p)) p
    exact ⟨-x, by grind⟩
/-- the state before a column -/
structure Gs (p : Int) (m n : Nat) (A : Mx) (c r : Nat) (R : Mx) (q : Nat → Nat) : Prop where
  red : ∀ i j, i < m → j < n → 0 ≤ R i j ∧ R i j < p
  van : ∀ k, k ≤ 5 → (Van p k m n R ↔ Van p k m n A)
  spn : ∀ v, Sp p m n R v ↔ Sp p m n A v
  piv : ∀ i' i, i' < m → i < r → R i' (q i) = if i' = i then 1 else 0
  qc : ∀ i, i < r → q i < c
  low : ∀ i, r ≤ i → i < m → ∀ j, j < c → R i j = 0
  rm : r ≤ m
  rc : r ≤ c
theorem Gs.skip {A R : Mx} {c r : Nat} {q : Nat → Nat} (G : Gs p m n A c r R q) (h : ∀ i, r ≤ i → i < m → R i c = 0) : Gs p m n A (c + 1) r R q :=
  ⟨G.red, G.van, G.spn, G.piv, fun i hi => by have := G.qc i hi; omega, fun i h1 h2 j hj => by
    rcases Nat.lt_or_eq_of_le (Nat.le_of_lt_succ hj) with e | e
    · exact G.low i h1 h2 j e
    · rw [e]
      exact h i h1 h2, G.rm, by have := G.rc; omega⟩
theorem Gs.step (hp : 1 < p) {A R : Mx} {c r f : Nat} {q : Nat → Nat} {l : Int} (G : Gs p m n A c r R q) (hc : c < n) (h1 : r ≤ f) (h2 : f < m) (hl : l * R f c % p = 1) : Gs p m n A (c + 1) (r + 1) (gs p R r f c l) fun i => if i = r then c else q i := by
  have hl2 : p ∣ l * R f c - 1 := by
    obtain ⟨x, hx⟩ := dvd_emod (l * R f c) p
    exact ⟨-x, by grind⟩
  have t1 := gs_two (p := p) (n := n) R (c := c) (l := l) (show r < m by omega) h2
  have t2 := gs_back (p := p) (n := n) R (c := c) (l := l) (show r < m by omega) h2 hl2
  have p0 : 0 < p := by omega
  have rc1 : gs p R r f c l r c = 1 := by rw [gs_r, Int.mul_comm]; exact hl
  have one : (1 : Int) % p = 1 := Int.emod_eq_of_lt (by decide) hp
  have tf : ∀ i, i ≠ r → r ≤ i → r ≤ trn r f i := fun i h h' => by unfold trn; split <;> (try split) <;> omega
  refine ⟨fun i j hi hj => ?_, fun k hk => ⟨fun V => (G.van k hk).mp (van_two hk V t2), fun V => van_two hk ((G.van k hk).mpr V) t1⟩, fun v => ⟨fun s => (G.spn v).mp (s.two t1), fun s => ((G.spn v).mpr s).two t2⟩, fun i' i hi' hi => ?_, fun i hi => ?_, fun i hi1 hi2 j hj => ?_, by omega, by have := G.rc; omega⟩
  · by_cases h : i = r
    · subst h
      rw [gs_r]
      exact ⟨Int.emod_nonneg _ (by omega), Int.emod_lt_of_pos _ p0⟩
    · rw [gs_i p R l j h]
      exact ⟨Int.emod_nonneg _ (by omega), Int.emod_lt_of_pos _ p0⟩
  · show gs p R r f c l i' (if i = r then c else q i) = _
    by_cases e : i = r
    · subst e
      rw [if_pos rfl]
      by_cases h : i' = i
      · subst h
        rw [if_pos rfl]
        exact rc1
      · have e1 : R f c * l % p = 1 := by rw [← gs_r p R i f c l]; exact rc1
        rw [if_neg h, gs_i p R l c h, e1, Int.mul_one, Int.sub_self, Int.zero_emod]
    · rw [if_neg e]
      have hi : i < r := by omega
      have f0 : R f (q i) = 0 := by rw [G.piv f i h2 hi, if_neg (by omega)]
      by_cases h : i' = r
      · subst h
        rw [gs_r, f0, Int.zero_mul, Int.zero_emod, if_neg (by omega)]
      · have e1 : R (trn r f i') (q i) = if i' = i then 1 else 0 := by
          rw [G.piv _ i (trn_lt (by omega) h2 hi') hi]
          unfold trn
          rw [if_neg h]
          by_cases h3 : i' = f
          · rw [if_pos h3, if_neg (by omega), if_neg (by omega)]
          · rw [if_neg h3]
        rw [gs_i p R l (q i) h, f0, Int.zero_mul, Int.zero_emod, Int.mul_zero, Int.sub_zero, e1]
        split
        · exact one
        · exact Int.zero_emod p
  · show (if i = r then c else q i) < c + 1
    split
    · omega
    · have := G.qc i (by omega)
      omega
  · have h : i ≠ r := by omega
    rw [gs_i p R l j h]
    rcases Nat.lt_or_eq_of_le (Nat.le_of_lt_succ hj) with e | e
    · rw [G.low f h1 h2 j e, G.low _ (tf i h (by omega)) (trn_lt (by omega) h2 hi2) j e, Int.zero_mul, Int.zero_emod, Int.mul_zero, Int.sub_zero, Int.zero_emod]
    · subst e
      have e1 : R f j * l % p = 1 := by rw [← gs_r p R r f j l]; exact rc1
      rw [e1, Int.mul_one, Int.sub_self, Int.zero_emod]
theorem Gs.fin {A R : Mx} {r : Nat} {q : Nat → Nat} (G : Gs p m n A n r R q) : End p m n r R q := ⟨G.rm, G.qc, G.piv, G.low⟩
theorem Gs.start (hp : 0 < p) (A : Mx) : Gs p m n A 0 0 (fun i j => A i j % p) fun _ => 0 := by
  have t1 : Two p m n (fun i j => A i j % p) A := fun i hi => ⟨1, 0, i, i, hi, hi, fun j _ => by
    obtain ⟨x, hx⟩ := dvd_emod (A i j) p
    exact ⟨x, by grind⟩⟩
  have t2 : Two p m n A (fun i j => A i j % p) := fun i hi => ⟨1, 0, i, i, hi, hi, fun j _ => by
    obtain ⟨x, hx⟩ := dvd_emod (A i j) p
    exact ⟨-x, by grind⟩⟩
  exact ⟨fun i j _ _ => ⟨Int.emod_nonneg _ (by omega), Int.emod_lt_of_pos _ hp⟩, fun k hk => ⟨fun V => van_two hk V t2, fun V => van_two hk V t1⟩, fun v => ⟨fun s => s.two t1, fun s => s.two t2⟩, fun _ i _ hi => absurd hi (Nat.not_lt_zero _), fun i hi => absurd hi (Nat.not_lt_zero _), fun i _ _ j hj => absurd hj (Nat.not_lt_zero _), Nat.zero_le _, Nat.zero_le _⟩
end
end Dt

namespace Dt
open Pm
def sm : Nat → (Nat → Int) → Int
  | 0, _ => 0
  | r + 1, f => sm r f + f r
theorem sm_congr {r : Nat} {f g : Nat → Int} (h : ∀ i, i < r → f i = g i) : sm r f = sm r g := by
  induction r with
  | zero => rfl
  | succ r ih =>
    show sm r f + f r = sm r g + g r
    rw [ih fun i hi => h i (by omega), h r (by omega)]
theorem sm_zero {r : Nat} {f : Nat → Int} (h : ∀ i, i < r → f i = 0) : sm r f = 0 := by
  induction r with
  | zero => rfl
  | succ r ih =>
    show sm r f + f r = 0
    rw [ih fun i hi => h i (by omega), h r (by omega)]
    rfl
theorem sm_one {r i : Nat} {f : Nat → Int} (hi : i < r) (h : ∀ j, j < r → j ≠ i → f j = 0) : sm r f = f i := by
  induction r with
  | zero => omega
  | succ r ih =>
    show sm r f + f r = f i
    by_cases e : i = r
    · subst e
      rw [sm_zero fun j hj => h j (by omega) (by omega)]
      omega
    · rw [ih (by omega) fun j hj he => h j (by omega) he, h r (by omega) (fun z => e z.symm)]
      omega
theorem sm_upd {r i : Nat} {f g : Nat → Int} (hi : i < r) (h : ∀ j, j < r → j ≠ i → g j = f j) : sm r g = sm r f + (g i - f i) := by
  induction r with
  | zero => omega
  | succ r ih =>
    show sm r g + g r = sm r f + f r + (g i - f i)
    by_cases e : i = r
    · subst e
      rw [sm_congr fun j hj => h j (by omega) (by omega)]
      omega
    · rw [ih (by omega) fun j hj he => h j (by omega) he, h r (by omega) (fun z => e z.symm)]
      omega
/-- all rows of r numbers below P -/
def tp (P : Nat) : Nat → List (List Nat)
  | 0 => [[]]
  | r + 1 => (tp P r).flatMap fun t => (List.range P).map fun x => x :: t
theorem tp_len (P : Nat) : ∀ r, (tp P r).length = P ^ r
  | 0 => rfl
  | r + 1 => by
    show ((tp P r).flatMap _).length = _
    rw [List.length_flatMap]
    simp only [List.length_map, List.length_range, List.map_const', List.sum_replicate_nat]
    rw [tp_len P r, Nat.pow_succ]
theorem mem_tp (P : Nat) : ∀ (r : Nat) (t : List Nat), t ∈ tp P r ↔ t.length = r ∧ ∀ x ∈ t, x < P
  | 0, t => by
    show t ∈ [[]] ↔ _
    rw [List.mem_singleton]
    constructor
    · intro e
      subst e
      exact ⟨rfl, fun x hx => by cases hx⟩
    · intro h
      exact List.eq_nil_of_length_eq_zero h.1
  | r + 1, t => by
    show t ∈ (tp P r).flatMap _ ↔ _
    rw [List.mem_flatMap]
    constructor
    · rintro ⟨u, hu, h⟩
      obtain ⟨x, hx, rfl⟩ := List.mem_map.mp h
      obtain ⟨h1, h2⟩ := (mem_tp P r u).mp hu
      refine ⟨by rw [List.length_cons, h1], fun y hy => ?_⟩
      rcases List.mem_cons.mp hy with e | hy
      · rw [e]
        exact List.mem_range.mp hx
      · exact h2 y hy
    · rintro ⟨h1, h2⟩
      cases t with
      | nil => cases h1
      | cons x u =>
        rw [List.length_cons] at h1
        exact ⟨u, (mem_tp P r u).mpr ⟨by omega, fun y hy => h2 y (List.mem_cons_of_mem _ hy)⟩, List.mem_map.mpr ⟨x, List.mem_range.mpr (h2 x List.mem_cons_self), rfl⟩⟩
theorem nd_tp (P : Nat) : ∀ r, (tp P r).Nodup
  | 0 => by simp [tp]
  | r + 1 => by
    show ((tp P r).flatMap _).Nodup
    rw [List.nodup_iff_pairwise_ne, List.pairwise_flatMap]
    refine ⟨fun t _ => ?_, ?_⟩
    · rw [List.pairwise_map]
      exact (List.nodup_iff_pairwise_ne.mp List.nodup_range).imp fun ne e => ne (List.cons.inj e).1
    · refine (List.nodup_iff_pairwise_ne.mp (nd_tp P r)).imp fun {a b} ne x hx y hy e => ?_
      obtain ⟨u, _, rfl⟩ := List.mem_map.mp hx
      obtain ⟨v, _, rfl⟩ := List.mem_map.mp hy
      exact ne (List.cons.inj e).2
section
variable {p : Int} {m n r : Nat} {R : Mx} {q : Nat → Nat}
def cmb (R : Mx) (t : List Nat) (r : Nat) (j : Nat) : Int := sm r fun i => (t.getD i 0 : Nat) * R i j
def phi (p : Int) (n : Nat) (R : Mx) (r : Nat) (t : List Nat) : List Int := (List.range n).map fun j => cmb R t r j % p
def vec (v : List Int) (j : Nat) : Int := v.getD j 0
theorem phi_at (t : List Nat) {j : Nat} (h : j < n) : vec (phi p n R r t) j = cmb R t r j % p := by
  unfold vec phi
  rw [List.getD_eq_getElem?_getD, List.getElem?_map, List.getElem?_range h]
  rfl
theorem cmb_sp (t : List Nat) : ∀ s, s ≤ m → Sp p m n R (cmb R t s)
  | 0, _ => .zero _ fun j _ => Int.dvd_zero p
  | s + 1, h => .add (cmb R t s) _ s (t.getD s 0 : Nat) (cmb_sp t s (by omega)) (by omega) fun j _ => by
    show p ∣ (cmb R t s j + (t.getD s 0 : Nat) * R s j) - (cmb R t s j + (t.getD s 0 : Nat) * R s j)
    rw [Int.sub_self]
    exact Int.dvd_zero p
theorem End.all (E : End p m n r R q) {P : Nat} (hP : p = (P : Nat)) (h0 : 0 < P) {v : Nat → Int} (s : Sp p m n R v) : ∃ t, t.length = r ∧ (∀ x ∈ t, x < P) ∧ ∀ j, j < n → p ∣ v j - cmb R t r j := by
  induction s with
  | zero v hv =>
    refine ⟨List.replicate r 0, by simp, fun x hx => by rw [(List.mem_replicate.mp hx).2]; exact h0, fun j hj => ?_⟩
    have e : cmb R (List.replicate r 0) r j = 0 := sm_zero fun i hi => by
      have : (List.replicate r 0).getD i 0 = 0 := by
        rw [List.getD_eq_getElem?_getD, List.getElem?_replicate]
        split <;> rfl
      rw [this]
      simp
    rw [e, Int.sub_zero]
    exact hv j hj
  | add u w i c _ hi e ih =>
    obtain ⟨t, t1, t2, t3⟩ := ih
    by_cases h : i < r
    · obtain ⟨x, hx⟩ : ∃ x : Nat, ((t.getD i 0 : Nat) + c) % p = (x : Nat) := ⟨(((t.getD i 0 : Nat) + c) % p).toNat, by
        have := Int.emod_nonneg ((t.getD i 0 : Nat) + c) (show p ≠ 0 by omega)
        omega⟩
      have xl : x < P := by
        have := Int.emod_lt_of_pos ((t.getD i 0 : Nat) + c) (show 0 < p by omega)
        omega
      refine ⟨t.set i x, by rw [List.length_set, t1], fun y hy => ?_, fun j hj => ?_⟩
      · rcases List.mem_or_eq_of_mem_set hy with z | z
        · exact t2 y z
        · rw [z]
          exact xl
      · have e1 : cmb R (t.set i x) r j = cmb R t r j + (((t.set i x).getD i 0 : Nat) * R i j - (t.getD i 0 : Nat) * R i j) := sm_upd h fun k hk ne => by
          have : (t.set i x).getD k 0 = t.getD k 0 := by
            rw [List.getD_eq_getElem?_getD, List.getD_eq_getElem?_getD, List.getElem?_set_ne (fun z => ne z.symm)]
          rw [this]
        have e2 : (t.set i x).getD i 0 = x := by
          rw [List.getD_eq_getElem?_getD, List.getElem?_set_self (by omega)]
          rfl
        rw [e1, e2]
        obtain ⟨a, ha⟩ := e j hj
        obtain ⟨b, hb⟩ := t3 j hj
        obtain ⟨d, hd⟩ := dvd_emod ((t.getD i 0 : Nat) + c) p
        rw [hx] at hd
        exact ⟨a + b - d * R i j, by grind⟩
    · refine ⟨t, t1, t2, fun j hj => ?_⟩
      have := E.low i (by omega) hi j hj
      obtain ⟨a, ha⟩ := e j hj
      obtain ⟨b, hb⟩ := t3 j hj
      rw [this] at ha
      exact ⟨a + b, by grind⟩
theorem phi_q (E : End p m n r R q) {t : List Nat} {i : Nat} (hi : i < r) : cmb R t r (q i) = (t.getD i 0 : Nat) := by
  have e : cmb R t r (q i) = (t.getD i 0 : Nat) * R i (q i) := sm_one hi fun k hk ne => by
    rw [E.piv k i (by have := E.rm; omega) hi, if_neg ne, Int.mul_zero]
  rw [e, E.piv i i (by have := E.rm; omega) hi, if_pos rfl, Int.mul_one]
/-- how many there are -/
theorem End.count (E : End p m n r R q) {P : Nat} (hP : p = (P : Nat)) (h0 : 0 < P) {L : List (List Int)} (nd : L.Nodup) (hL : ∀ v, v ∈ L ↔ v.length = n ∧ (∀ x ∈ v, 0 ≤ x ∧ x < p) ∧ Sp p m n R (vec v)) : L.length = P ^ r := by
  have p0 : 0 < p := by omega
  have len : ∀ t, (phi p n R r t).length = n := fun t => by simp [phi]
  have red : ∀ t, ∀ x ∈ phi p n R r t, 0 ≤ x ∧ x < p := fun t x hx => by
    obtain ⟨j, _, rfl⟩ := List.mem_map.mp hx
    exact ⟨Int.emod_nonneg _ (by omega), Int.emod_lt_of_pos _ p0⟩
  have nd2 : ((tp P r).map (phi p n R r)).Nodup := by
    rw [List.nodup_iff_pairwise_ne, List.pairwise_map]
    refine List.Pairwise.imp_of_mem (fun {t u} ht hu ne e => ne ?_) (List.nodup_iff_pairwise_ne.mp (nd_tp P r))
    obtain ⟨t1, t2⟩ := (mem_tp P r t).mp ht
    obtain ⟨u1, u2⟩ := (mem_tp P r u).mp hu
    refine List.ext_getElem (by omega) fun i hi1 hi2 => ?_
    have a := phi_at (p := p) (R := R) (r := r) t (E.qn i (by omega))
    have b := phi_at (p := p) (R := R) (r := r) u (E.qn i (by omega))
    rw [phi_q E (by omega)] at a b
    rw [e, b] at a
    have x1 := t2 t[i] (List.getElem_mem hi1)
    have x2 := u2 u[i] (List.getElem_mem hi2)
    rw [List.getD_eq_getElem?_getD, List.getD_eq_getElem?_getD, List.getElem?_eq_getElem hi1, List.getElem?_eq_getElem hi2] at a
    have a : ((u[i] : Nat) : Int) % p = ((t[i] : Nat) : Int) % p := a
    rw [Int.emod_eq_of_lt (by omega) (by omega), Int.emod_eq_of_lt (by omega) (by omega)] at a
    omega
  have mem : ∀ v, v ∈ L ↔ v ∈ (tp P r).map (phi p n R r) := fun v => by
    rw [hL, List.mem_map]
    constructor
    · rintro ⟨h1, h2, h3⟩
      obtain ⟨t, t1, t2, t3⟩ := E.all hP h0 h3
      refine ⟨t, (mem_tp P r t).mpr ⟨t1, t2⟩, List.ext_getElem (by rw [len, h1]) fun j hj1 hj2 => ?_⟩
      have hj : j < n := by omega
      have a := phi_at (p := p) (R := R) (r := r) t hj
      have e1 : vec (phi p n R r t) j = (phi p n R r t)[j] := by
        unfold vec
        rw [List.getD_eq_getElem?_getD, List.getElem?_eq_getElem hj1]
        rfl
      have e2 : vec v j = v[j] := by
        unfold vec
        rw [List.getD_eq_getElem?_getD, List.getElem?_eq_getElem hj2]
        rfl
      have b := h2 v[j] (List.getElem_mem hj2)
      have c := t3 j hj
      rw [e2] at c
      rw [← e1, a]
      have c2 := Int.emod_emod_of_dvd (v[j] - cmb R t r j) (Int.dvd_refl p)
      have c3 : v[j] % p = cmb R t r j % p := Int.emod_eq_emod_iff_emod_sub_eq_zero.mpr (Int.emod_eq_zero_of_dvd c)
      rw [Int.emod_eq_of_lt b.1 b.2] at c3
      exact c3.symm
    · rintro ⟨t, ht, rfl⟩
      refine ⟨len t, red t, (cmb_sp (m := m) t r E.rm).congr fun j hj => ?_⟩
      rw [phi_at t hj]
      exact dvd_emod _ _
  have a := len_le nd fun x hx => (mem x).mp hx
  have b := len_le nd2 fun x hx => (mem x).mpr hx
  rw [List.length_map, tp_len] at a b
  omega
end
end Dt

namespace G07
open PySem PySem.Spec PyProof.Rows L2 Vl Pm Dt
/-! ### the inverse modulo a prime: reckoned -/
def invOk (p a : Int) : Bool := match F__inverse [.int a, .int p] with
  | some (.int l, []) => decide (l * a % p = 1) && decide (0 ≤ l) && decide (l < p)
  | _ => false
theorem inv_all : ([2, 3, 5, 7, 11, 13] : List Nat).all (fun p => (List.range' 1 (p - 1)).all fun a => invOk (p : Nat) (a : Nat)) = true := by decide +kernel
theorem inv_ok {p : Nat} (hp : p ∈ [2, 3, 5, 7, 11, 13]) {a : Int} (h1 : 0 ≤ a) (h2 : a < p) (h0 : a ≠ 0) : ∃ l : Int, F__inverse [.int a, .int (p : Nat)] = some (.int l, []) ∧ l * a % (p : Nat) = 1 ∧ 0 ≤ l ∧ l < p := by
  obtain ⟨k, hk⟩ : ∃ k : Nat, a = (k : Nat) := ⟨a.toNat, by omega⟩
  subst hk
  have q := List.all_eq_true.mp (List.all_eq_true.mp inv_all p hp) k (List.mem_range'_1.mpr (by omega))
  unfold invOk at q
  split at q
  · rename_i l e
    rw [Bool.and_eq_true, Bool.and_eq_true, decide_eq_true_eq, decide_eq_true_eq, decide_eq_true_eq] at q
    exact ⟨l, e, q.1.1, q.1.2, q.2⟩
  · cases q
/-! ### matrices as data -/
def rwN (n : Nat) (x : Nat → Int) : List D := (List.range n).map fun j => .int (x j)
def lD (m n : Nat) (F : Mx) : List D := (List.range m).map fun i => .lst false (rwN n (F i))
def tD (m n : Nat) (F : Mx) : List D := (List.range m).map fun i => .tup (rwN n (F i))
theorem rwN_len (n : Nat) (x : Nat → Int) : (rwN n x).length = n := by simp [rwN]
theorem lD_len (m n : Nat) (F : Mx) : (lD m n F).length = m := by simp [lD]
theorem tD_len (m n : Nat) (F : Mx) : (tD m n F).length = m := by simp [tD]
theorem no_row : ∀ l : List Int, D.noOwnL (l.map D.int) = true := noOwnL_ints
theorem rwN_int (n : Nat) (x : Nat → Int) : rwN n x = ((List.range n).map x).map D.int := by unfold rwN; rw [List.map_map]; rfl
theorem no_rwN (n : Nat) (x : Nat → Int) : D.noOwnL (rwN n x) = true := by rw [rwN_int]; exact noOwnL_ints _
theorem frz_rwN (n : Nat) (x : Nat → Int) : D.frzL (rwN n x) = rwN n x := by rw [rwN_int]; exact frzL_ints _
theorem no_lD (m n : Nat) (F : Mx) : D.noOwnL (lD m n F) = true := by
  unfold lD
  generalize List.range m = L
  induction L with
  | nil => rfl
  | cons x r ih =>
    show (D.noOwnL (rwN n (F x)) && D.noOwnL (r.map fun i => D.lst false (rwN n (F i)))) = true
    rw [no_rwN, ih]
    rfl
theorem no_tD (m n : Nat) (F : Mx) : D.noOwnL (tD m n F) = true := by
  unfold tD
  generalize List.range m = L
  induction L with
  | nil => rfl
  | cons x r ih =>
    show (D.noOwnL (rwN n (F x)) && D.noOwnL (r.map fun i => D.tup (rwN n (F i)))) = true
    rw [no_rwN, ih]
    rfl
theorem frz_tD (m n : Nat) (F : Mx) : D.frzL (tD m n F) = tD m n F := by
  unfold tD
  generalize List.range m = L
  induction L with
  | nil => rfl
  | cons x r ih =>
    show D.tup (D.frzL (rwN n (F x))) :: D.frzL (r.map fun i => D.tup (rwN n (F i))) = _
    rw [frz_rwN, ih]
    rfl
theorem lD_congr {m n : Nat} {F G : Mx} (h : ∀ i j, i < m → j < n → F i j = G i j) : lD m n F = lD m n G := by
  unfold lD
  refine List.map_congr_left fun i hi => ?_
  congr 1
  unfold rwN
  refine List.map_congr_left fun j hj => ?_
  rw [h i j (List.mem_range.mp hi) (List.mem_range.mp hj)]
theorem lD_get {m n : Nat} (F : Mx) {k : Nat} (h : k < (lD m n F).length) : (lD m n F)[k] = .lst false (rwN n (F k)) := by
  have e : (lD m n F)[k]? = some (.lst false (rwN n (F k))) := by
    unfold lD
    rw [List.getElem?_map, List.getElem?_range (by rw [← lD_len m n F]; exact h)]
    rfl
  exact (List.getElem?_eq_some_iff.mp e).2
theorem lD_set {m n : Nat} (F : Mx) {i : Nat} (x : Nat → Int) : (lD m n F).set i (.lst false (rwN n x)) = lD m n (setr F i x) := by
  refine List.ext_getElem (by rw [List.length_set, lD_len, lD_len]) fun k h1 h2 => ?_
  rw [List.getElem_set, lD_get _ h2]
  by_cases e : i = k
  · rw [if_pos e]
    have : setr F i x k = x := by
      funext j
      unfold setr
      rw [if_pos e.symm]
    rw [this]
  · rw [if_neg e, lD_get]
    have : setr F i x k = F k := by
      funext j
      unfold setr
      rw [if_neg (fun z => e z.symm)]
    rw [this]
theorem lD_at {m n : Nat} {F : Mx} {z : Int} (i : Nat) (e : z = (i : Nat)) (h : i < m) : L2.atI (lD m n F) z = some (.lst false (rwN n (F i))) := by
  subst e
  refine atI_k ?_
  unfold lD
  rw [List.getElem?_map, List.getElem?_range h]
  rfl
theorem tD_at {m n : Nat} {F : Mx} {z : Int} (i : Nat) (e : z = (i : Nat)) (h : i < m) : L2.atI (tD m n F) z = some (.tup (rwN n (F i))) := by
  subst e
  refine atI_k ?_
  unfold tD
  rw [List.getElem?_map, List.getElem?_range h]
  rfl
theorem rwN_at {n : Nat} {x : Nat → Int} {z : Int} (j : Nat) (e : z = (j : Nat)) (h : j < n) : L2.atI (rwN n x) z = some (.int (x j)) := by
  subst e
  refine atI_k ?_
  unfold rwN
  rw [List.getElem?_map, List.getElem?_range h]
  rfl
theorem gSet_lD {m n : Nat} {F : Mx} {z : Int} (i : Nat) (x : Nat → Int) (e : z = (i : Nat)) (h : i < m) : gSet (.lst true (lD m n F)) (.int z) (.lst false (rwN n x)) = some (.lst true (lD m n (setr F i x))) := by
  show (if D.noOwnL (lD m n F) = true then (L2.ixN (lD m n F).length z).map fun j => D.lst true ((lD m n F).set j (.lst false (rwN n x))) else none) = _
  rw [if_pos (no_lD m n F), ixN_nat i e (by rw [lD_len]; exact h), Option.map_some, lD_set]
theorem fmod_p {x p : Int} (h : 0 < p) : x.fmod p = x % p := Int.fmod_eq_emod_of_nonneg x (by omega)
/-- a comprehension over a row -/
theorem comp_row {i n : Nat} {fi : M (List D)} {fe : M D} {ρ0 ρ1 : Vl.Env} {x : Nat → Int} (h : Int → Int) (hi : fi ρ0 = some (rwN n x, ρ1)) (ho : ownOk ρ1 [i] = true)
    (he : ∀ z : Int, z ∈ (List.range n).map x → fe (ρ1.set i (some (.int z))) = some (.int (h z), ρ1.set i (some (.int z)))) (hn : n ≤ 1000) : fComp [i] fi (gNm i) fYes fe ρ0 = some (.lst true (rwN n fun j => h (x j)), ρ1) := by
  have c := fComp_all (i := i) (fe := fe) (fun d => match d with | .int z => .int (h z) | _ => d) hi ho (fun d hd => by
    obtain ⟨j, hj, rfl⟩ := List.mem_map.mp hd
    exact he (x j) (List.mem_map.mpr ⟨j, hj, rfl⟩)) (by rw [rwN_len]; omega)
  rw [c]
  unfold rwN
  rw [List.map_map]
  rfl
end G07

namespace G07
open PySem PySem.Spec PyProof.Rows L2 Vl Pm Dt
/-! ### a comprehension over pairs -/
abbrev gPr (i j : Nat) : D → Vl.Env → Option Vl.Env := gTp 2 (gsCons (gNm i) (gsCons (gNm j) gsNil))
def prI (l : List (Int × Int)) : List D := l.map fun q => .tup [.int q.1, .int q.2]
theorem compZ {i j : Nat} (hij : i ≠ j) {fe : M D} {B : Vl.Env} (h : Int → Int → Int) : ∀ (items : List (Int × Int)) (ρ : Vl.Env) (acc : List D), (ρ.set j none).set i none = B →
    (∀ q ∈ items, fe ((B.set i (some (.int q.1))).set j (some (.int q.2))) = some (.int (h q.1 q.2), (B.set i (some (.int q.1))).set j (some (.int q.2)))) → acc.length + items.length ≤ 100000 →
    ∃ ρ', compL [i, j] (gPr i j) fYes fe (prI items) ρ acc = some (acc ++ items.map fun q => .int (h q.1 q.2), ρ') ∧ (ρ'.set j none).set i none = B
  | [], ρ, acc, e, _, _ => ⟨ρ, by rw [List.map_nil, List.append_nil]; rfl, e⟩
  | q :: qs, ρ, acc, e, hf, hl => by
    rw [List.length_cons] at hl
    have eb : ((((B.set i (some (.int q.1))).set j (some (.int q.2))).set j none).set i none) = B := by
      rw [List.set_set, List.set_comm _ _ hij, List.set_set, ← e, List.set_comm _ _ hij, List.set_set, List.set_set]
    obtain ⟨ρ', e1, e2⟩ := compZ hij h qs ((B.set i (some (.int q.1))).set j (some (.int q.2))) (acc ++ [.int (h q.1 q.2)]) eb (fun z hz => hf z (List.mem_cons_of_mem _ hz)) (by rw [List.length_append, List.length_singleton]; omega)
    refine ⟨ρ', ?_, e2⟩
    have w : wipeE ρ [i, j] = B := e
    show (gPr i j (.tup [.int q.1, .int q.2]) (wipeE ρ [i, j])).bind _ = _
    rw [w]
    show (fe ((B.set i (some (.int q.1))).set j (some (.int q.2)))).bind _ = _
    rw [hf q List.mem_cons_self, Option.bind_some, if_pos (show szOk acc.length = true from decide_eq_true (by omega))]
    refine Eq.trans e1 ?_
    rw [List.map_cons, List.append_assoc]
    rfl
theorem comp_pr {i j : Nat} (hij : i ≠ j) {fi : M (List D)} {fe : M D} {ρ0 ρ1 B : Vl.Env} {items : List (Int × Int)} (h : Int → Int → Int) (eB : (ρ1.set j none).set i none = B) (hi : fi ρ0 = some (prI items, ρ1)) (ho : ownOk ρ1 [i, j] = true)
    (hf : ∀ q ∈ items, fe ((B.set i (some (.int q.1))).set j (some (.int q.2))) = some (.int (h q.1 q.2), (B.set i (some (.int q.1))).set j (some (.int q.2)))) (hl : items.length ≤ 100000) :
    fComp [i, j] fi (gPr i j) fYes fe ρ0 = some (.lst true (items.map fun q => .int (h q.1 q.2)), ρ1) := by
  obtain ⟨ρ', e1, e2⟩ := compZ hij h items ρ1 [] eB hf (by simpa using hl)
  unfold fComp
  rw [hi, Option.bind_some, if_pos ho, e1, Option.bind_some, List.nil_append]
  show some (D.lst true _, (ρ'.set j ((ρ1[j]?).getD none)).set i ((ρ1[i]?).getD none)) = _
  have e : (ρ'.set j ((ρ1[j]?).getD none)).set i ((ρ1[i]?).getD none) = ρ1 := by
    have a1 : (ρ'.set j ((ρ1[j]?).getD none)).set i ((ρ1[i]?).getD none) = (((ρ'.set j none).set i none).set j ((ρ1[j]?).getD none)).set i ((ρ1[i]?).getD none) := by
      rw [List.set_comm _ _ hij, List.set_set, List.set_set]
    rw [a1, e2, ← eB, List.set_comm _ _ hij, List.set_set, List.set_set, set_back, set_back]
  rw [e]
theorem zip_rows (n : Nat) (x y : Nat → Int) : zipD (rwN n x) (rwN n y) = prI ((List.range n).map fun j => (x j, y j)) := by
  unfold rwN prI
  rw [List.map_map]
  generalize List.range n = L
  induction L with
  | nil => rfl
  | cons k r ih =>
    show D.tup [.int (x k), .int (y k)] :: zipD (r.map fun j => .int (x j)) (r.map fun j => .int (y j)) = _
    rw [ih]
    rfl
/-! ### rank_modulo -/
abbrev kI : M D := (fOp [2] [] gIxA (fOp [2] [] gIxA (fVar 2) (fVar 4)) (fVar 7))
abbrev rk1 : MS := (sSet 2 (fComp [4] (iSeq (fVar 0)) (gNm 4) fYes (fFz (fComp [3] (iSeq (fVar 4)) (gNm 3) fYes (fOp [3] [] gMod (fVar 3) (fVar 1))))))
abbrev rk3 : MS := (sSet 6 (fIf (fTr (fVar 2)) (fCl gLen (fCons [2] [] (fOp [2] [] gIxA (fVar 2) (fC (.int 0))) fNil)) (fC (.int 0))))
abbrev kF : MS := (sSet 8 (fComp [4] (iRg2 (fCons [5] [] (fVar 5) (fCons [] [] (fCl gLen (fCons [2] [] (fVar 2) fNil)) fNil))) (gNm 4) (fB (fOp [2] [] gNe kI (fC (.int 0)))) (fVal 4)))
abbrev kS : MS := (sAsg (gTp 2 (gsCons (gSt 2 (fVar 5)) (gsCons (gSt 2 (fOp [8] [] gIxA (fVar 8) (fC (.int 0)))) gsNil))) (fTup (fCons [] [] (chk (fOp [2] [] gIxA (fVar 2) (fOp [8] [] gIxA (fVar 8) (fC (.int 0))))) (fCons [] [] (chk (fOp [2] [] gIxA (fVar 2) (fVar 5))) fNil))))
abbrev kL : MS := (sSet 9 (fCall F__inverse (fCons [2] [] (fOp [2] [] gIxA (fOp [2] [] gIxA (fVar 2) (fVar 5)) (fVar 7)) (fCons [1] [] (fVar 1) fNil))))
abbrev kM : MS := (sAsg (gSt 2 (fVar 5)) (fFz (fComp [3] (iSeq (fOp [2] [] gIxA (fVar 2) (fVar 5))) (gNm 3) fYes (fOp [] [] gMod (fOp [3] [] gMul (fVar 3) (fVar 9)) (fVar 1)))))
abbrev kZ : MS := (sAsg (gSt 2 (fVar 4)) (fFz (fComp [11, 12] (iZp (fCons [2] [] (fOp [2] [] gIxA (fVar 2) (fVar 4)) (fCons [2] [] (fOp [2] [] gIxA (fVar 2) (fVar 5)) fNil))) (gPr 11 12) fYes (fOp [] [] gMod (fOp [11] [] gSub (fVar 11) (fOp [10] [] gMul (fVar 10) (fVar 12))) (fVar 1)))))
abbrev kJ : MS := (sSeq (sSet 10 (chk kI)) (sIf (fAnd (fB (fOp [4] [] gNe (fVar 4) (fVar 5))) (fB (fOp [10] [] gNe (fVar 10) (fC (.int 0))))) kZ sNil))
abbrev kO : MS := (sFor (iRg1 (fCons [] [] (fCl gLen (fCons [2] [] (fVar 2) fNil)) fNil)) (gNm 4) kJ)
abbrev kB : MS := (sSeq kF (sIf (fTr (fVar 8)) (sSeq kS (sSeq kL (sSeq kM (sSeq kO (sAug 5 [] gAddT (fC (.int 1))))))) sNil))
theorem rk_split : F_rank_modulo = runF 2 0 13 (sSeq rk1 (sSeq (sSet 5 (fC (.int 0))) (sSeq rk3 (sSeq (sFor (iRg1 (fCons [6] [] (fVar 6) fNil)) (gNm 7) kB) (sRet (fMov 5)))))) := rfl
abbrev kE (t : D) (p : Nat) (rows : List D) (o4 : Option Int) (r w : Nat) (o7 : Option Int) (x8 x9 x10 : Option D) : Vl.Env := [some t, some (.int (p : Nat)), some (.lst true rows), none, o4.map D.int, some (.int (r : Nat)), some (.int (w : Nat)), o7.map D.int, x8, x9, x10, none, none]
section
variable {t : D} {p m n : Nat}
theorem kI_ok {F : Mx} {r w : Nat} {x8 x9 x10 : Option D} (i c : Nat) (hi : i < m) (hc : c < n) : kI (kE t p (lD m n F) (some (i : Nat)) r w (some (c : Nat)) x8 x9 x10) = some (.int (F i c), kE t p (lD m n F) (some (i : Nat)) r w (some (c : Nat)) x8 x9 x10) :=
  ixl_ok (ixl_ok rfl rfl rfl (lD_at i rfl hi)) rfl rfl (rwN_at c rfl hc)
theorem kF_ok {F : Mx} {r w : Nat} {o4 : Option Int} {x8 x9 x10 : Option D} (c : Nat) (hm : m ≤ 1000) (hr : r ≤ m) (hc : c < n) : kF (kE t p (lD m n F) o4 r w (some (c : Nat)) x8 x9 x10) = some (.nx (kE t p (lD m n F) o4 r w (some (c : Nat)) (some (.lst true (nsD ((List.range' r (m - r)).filter fun i => !decide (F i c = 0))))) x9 x10)) := by
  have it : iRg2 (fCons [5] [] (fVar 5) (fCons [] [] (fCl gLen (fCons [2] [] (fVar 2) fNil)) fNil)) (kE t p (lD m n F) o4 r w (some (c : Nat)) x8 x9 x10) = some (nsD (List.range' r (m - r)), kE t p (lD m n F) o4 r w (some (c : Nat)) x8 x9 x10) := by
    rw [iRg2_ok (i := (r : Nat)) (j := (m : Nat)) (ρ1 := kE t p (lD m n F) o4 r w (some (c : Nat)) x8 x9 x10) (cons_ok rfl (cons_ok (cl_ok (cons_ok rfl rfl (safe_r1 _ _)) (by rw [gLen_l, lD_len])) rfl rfl) rfl) (okR_n (by omega) (by omega)) (okR_n (by omega) (by omega)), rg_ns, show ((m : Int) - (r : Int)).toNat = m - r by omega]
  have c1 := comp_ns (i := 4) (ft := (fB (fOp [2] [] gNe kI (fC (.int 0))))) (fe := (fVal 4)) (l := List.range' r (m - r)) (fun i => !decide (F i c = 0)) (fun i => .int (i : Nat)) it (by cases o4 <;> rfl) (fun i hi => by
    have := List.mem_range'_1.mp hi
    exact b_ok (op_ok (kI_ok i c (by omega) hc) rfl rfl (gNe_i _ _))) (fun i _ _ => rfl) (by rw [List.length_range']; omega)
  rw [← nsD_eq] at c1
  exact set_to c1 rfl
theorem kS_ok {F : Mx} {r w f : Nat} {o4 o7 : Option Int} {l : List Nat} {x9 x10 : Option D} (hr : r < m) (hf : f < m) : kS (kE t p (lD m n F) o4 r w o7 (some (.lst true (nsD (f :: l)))) x9 x10) = some (.nx (kE t p (lD m n (g1 F r f)) o4 r w o7 (some (.lst true (nsD (f :: l)))) x9 x10)) := by
  have i8 : ∀ rows : List D, fOp [8] [] gIxA (fVar 8) (fC (.int 0)) (kE t p rows o4 r w o7 (some (.lst true (nsD (f :: l)))) x9 x10) = some (.int (f : Nat), kE t p rows o4 r w o7 (some (.lst true (nsD (f :: l)))) x9 x10) := fun rows => ixl_ok rfl rfl rfl (atN (l := f :: l) (j := 0) 0 rfl (by simp))
  have a1 : chk (fOp [2] [] gIxA (fVar 2) (fOp [8] [] gIxA (fVar 8) (fC (.int 0)))) (kE t p (lD m n F) o4 r w o7 (some (.lst true (nsD (f :: l)))) x9 x10) = some (.lst false (rwN n (F f)), kE t p (lD m n F) o4 r w o7 (some (.lst true (nsD (f :: l)))) x9 x10) := chk_ok (ixl_ok rfl (i8 _) rfl (lD_at f rfl hf)) (no_rwN n _)
  have a2 : chk (fOp [2] [] gIxA (fVar 2) (fVar 5)) (kE t p (lD m n F) o4 r w o7 (some (.lst true (nsD (f :: l)))) x9 x10) = some (.lst false (rwN n (F r)), kE t p (lD m n F) o4 r w o7 (some (.lst true (nsD (f :: l)))) x9 x10) := chk_ok (ixl_ok rfl rfl rfl (lD_at r rfl hr)) (no_rwN n _)
  have e : lD m n (setr (setr F r (F f)) f (F r)) = lD m n (g1 F r f) := lD_congr fun i j _ _ => by
    unfold setr g1 trn
    by_cases h1 : i = f
    · by_cases h2 : i = r
      · rw [if_pos h1, if_pos h2, ← h1, h2]
      · rw [if_pos h1, if_neg h2, if_pos h1]
    · rw [if_neg h1]
      by_cases h2 : i = r
      · rw [if_pos h2, if_pos h2]
      · rw [if_neg h2, if_neg h2, if_neg h1]
  refine asg_ok (tup_ok (cons_ok a1 (cons_ok a2 rfl rfl) rfl) rfl) (by
    show ((D.noOwnL (rwN n (F f))) && (D.noOwnL (rwN n (F r)) && true)) = true
    rw [no_rwN, no_rwN]
    rfl) ?_
  refine tp2_ok (ρ1 := kE t p (lD m n (setr F r (F f))) o4 r w o7 (some (.lst true (nsD (f :: l)))) x9 x10) (st_ok rfl rfl rfl (gSet_lD r (F f) rfl hr) rfl) ?_
  rw [← e]
  exact st_ok rfl (i8 _) rfl (gSet_lD f (F r) rfl hf) rfl
theorem kL_ok {F : Mx} {r w c : Nat} {o4 : Option Int} {x8 x9 x10 : Option D} {l : Int} (hr : r < m) (hc : c < n) (h : F__inverse [.int (F r c), .int (p : Nat)] = some (.int l, [])) : kL (kE t p (lD m n F) o4 r w (some (c : Nat)) x8 x9 x10) = some (.nx (kE t p (lD m n F) o4 r w (some (c : Nat)) x8 (some (.int l)) x10)) :=
  set_to (call_ok (cons_ok (ixl_ok (ixl_ok rfl rfl rfl (lD_at r rfl hr)) rfl rfl (rwN_at c rfl hc)) (cons_ok rfl rfl rfl) rfl) rfl rfl h) rfl
theorem fz_row (n : Nat) (x : Nat → Int) : (D.lst true (rwN n x)).frz = .lst false (rwN n x) := congrArg (D.lst false) (frz_rwN n x)
theorem kM_ok {F : Mx} {r w : Nat} {o4 o7 : Option Int} {x8 x10 : Option D} {l : Int} (hp : 0 < p) (hn : n ≤ 1000) (hr : r < m) (hl : l.natAbs < 2 ^ 63) : kM (kE t p (lD m n F) o4 r w o7 x8 (some (.int l)) x10) = some (.nx (kE t p (lD m n (g2 p F r l)) o4 r w o7 x8 (some (.int l)) x10)) := by
  have cc := comp_row (i := 3) (fi := (iSeq (fOp [2] [] gIxA (fVar 2) (fVar 5)))) (fe := (fOp [] [] gMod (fOp [3] [] gMul (fVar 3) (fVar 9)) (fVar 1))) (ρ0 := kE t p (lD m n F) o4 r w o7 x8 (some (.int l)) x10) (ρ1 := kE t p (lD m n F) o4 r w o7 x8 (some (.int l)) x10) (x := F r) (fun z => z * l % p) (seq_it (d := .lst false (rwN n (F r))) (ixl_ok rfl rfl rfl (lD_at r rfl hr)) (if_pos (no_rwN n _))) rfl (fun z _ => by
    have g : gMod (.int (z * l)) (.int (p : Nat)) = some (.int (z * l % (p : Nat))) := by
      rw [gMod_i (by omega), fmod_p (by omega)]
    have gm : gMul (.int z) (.int l) = some (.int (z * l)) := gMul_i (cMul_r hl)
    exact op_ok (op_ok rfl rfl rfl gm) rfl rfl g) hn
  have f1 : fFz (fComp [3] (iSeq (fOp [2] [] gIxA (fVar 2) (fVar 5))) (gNm 3) fYes (fOp [] [] gMod (fOp [3] [] gMul (fVar 3) (fVar 9)) (fVar 1))) (kE t p (lD m n F) o4 r w o7 x8 (some (.int l)) x10) = some (.lst false (rwN n fun j => F r j * l % p), kE t p (lD m n F) o4 r w o7 x8 (some (.int l)) x10) := by
    rw [← fz_row]
    exact fz_ok cc
  exact asg_ok f1 (no_rwN n _) (st_ok rfl rfl rfl (gSet_lD r _ rfl hr) rfl)
end
end G07

namespace G07
open PySem PySem.Spec PyProof.Rows L2 Vl Pm Dt
section
variable {t : D} {p m n : Nat}
theorem kZ_ok {H : Mx} {r w i : Nat} {x8 x9 : Option D} {o7 : Option Int} {a : Int} (hp : 0 < p) (hn : n ≤ 1000) (hr : r < m) (hi : i < m) (ha : a.natAbs < 2 ^ 63) : kZ (kE t p (lD m n H) (some (i : Nat)) r w o7 x8 x9 (some (.int a))) = some (.nx (kE t p (lD m n (setr H i fun j => (H i j - a * H r j) % p)) (some (i : Nat)) r w o7 x8 x9 (some (.int a)))) := by
  have it : iZp (fCons [2] [] (fOp [2] [] gIxA (fVar 2) (fVar 4)) (fCons [2] [] (fOp [2] [] gIxA (fVar 2) (fVar 5)) fNil)) (kE t p (lD m n H) (some (i : Nat)) r w o7 x8 x9 (some (.int a))) = some (prI ((List.range n).map fun j => (H i j, H r j)), kE t p (lD m n H) (some (i : Nat)) r w o7 x8 x9 (some (.int a))) := by
    have e : (fCons [2] [] (fOp [2] [] gIxA (fVar 2) (fVar 4)) (fCons [2] [] (fOp [2] [] gIxA (fVar 2) (fVar 5)) fNil)) (kE t p (lD m n H) (some (i : Nat)) r w o7 x8 x9 (some (.int a))) = some ([.lst false (rwN n (H i)), .lst false (rwN n (H r))], kE t p (lD m n H) (some (i : Nat)) r w o7 x8 x9 (some (.int a))) :=
      cons_ok (ixl_ok rfl rfl rfl (lD_at i rfl hi)) (cons_ok (ixl_ok rfl rfl rfl (lD_at r rfl hr)) rfl (safe_r1 _ _)) (safe_r1 _ _)
    show ((fCons [2] [] (fOp [2] [] gIxA (fVar 2) (fVar 4)) (fCons [2] [] (fOp [2] [] gIxA (fVar 2) (fVar 5)) fNil)) (kE t p (lD m n H) (some (i : Nat)) r w o7 x8 x9 (some (.int a)))).bind _ = _
    rw [e, Option.bind_some, ← zip_rows]
    show (lstOf (.lst false (rwN n (H i)))).bind (fun l => (lstOf (.lst false (rwN n (H r)))).bind fun m => some (zipD l m, _)) = _
    have l1 : ∀ x : Nat → Int, lstOf (.lst false (rwN n x)) = some (rwN n x) := fun x => if_pos (no_rwN n x)
    rw [l1, l1]
    rfl
  have cc := comp_pr (i := 11) (j := 12) (by decide) (fe := (fOp [] [] gMod (fOp [11] [] gSub (fVar 11) (fOp [10] [] gMul (fVar 10) (fVar 12))) (fVar 1))) (B := kE t p (lD m n H) (some (i : Nat)) r w o7 x8 x9 (some (.int a))) (fun x y => (x - a * y) % p) rfl it rfl (fun q _ => by
    have g : gMod (.int (q.1 - a * q.2)) (.int (p : Nat)) = some (.int ((q.1 - a * q.2) % (p : Nat))) := by
      rw [gMod_i (by omega), fmod_p (by omega)]
    exact op_ok (op_ok rfl (op_ok rfl rfl rfl (gMul_i (cMul_l ha))) rfl (gSub_i _ _)) rfl rfl g) (by rw [List.length_map, List.length_range]; omega)
  have e2 : ((List.range n).map fun j => (H i j, H r j)).map (fun q => D.int ((q.1 - a * q.2) % p)) = rwN n fun j => (H i j - a * H r j) % p := by
    unfold rwN
    rw [List.map_map]
    rfl
  rw [e2] at cc
  have f1 : fFz (fComp [11, 12] (iZp (fCons [2] [] (fOp [2] [] gIxA (fVar 2) (fVar 4)) (fCons [2] [] (fOp [2] [] gIxA (fVar 2) (fVar 5)) fNil))) (gPr 11 12) fYes (fOp [] [] gMod (fOp [11] [] gSub (fVar 11) (fOp [10] [] gMul (fVar 10) (fVar 12))) (fVar 1))) (kE t p (lD m n H) (some (i : Nat)) r w o7 x8 x9 (some (.int a))) = some (.lst false (rwN n fun j => (H i j - a * H r j) % p), kE t p (lD m n H) (some (i : Nat)) r w o7 x8 x9 (some (.int a))) := by
    rw [← fz_row]
    exact fz_ok cc
  exact asg_ok f1 (no_rwN n _) (st_ok rfl rfl rfl (gSet_lD i _ rfl hi) rfl)
def Ht (p : Nat) (F : Mx) (r c k : Nat) : Mx := fun i j => if i < k ∧ i ≠ r then (F i j - F i c * F r j) % p else F i j
theorem kJ_ok {F : Mx} {r w c k : Nat} {x8 x9 x10 : Option D} (hp : 0 < p) (hn : n ≤ 1000) (hr : r < m) (hk : k < m) (hc : c < n) (red : ∀ i j, i < m → j < n → 0 ≤ F i j ∧ F i j < p) (hp2 : p < 100) :
    kJ (kE t p (lD m n (Ht p F r c k)) (some (k : Nat)) r w (some (c : Nat)) x8 x9 x10) = some (.nx (kE t p (lD m n (Ht p F r c (k + 1))) (some (k : Nat)) r w (some (c : Nat)) x8 x9 (some (.int (F k c))))) := by
  have e0 : Ht p F r c k k c = F k c := by
    unfold Ht
    rw [if_neg (by omega)]
  have er : ∀ j, Ht p F r c k r j = F r j := fun j => by
    unfold Ht
    rw [if_neg (by omega)]
  have ek : ∀ j, Ht p F r c k k j = F k j := fun j => by
    unfold Ht
    rw [if_neg (by omega)]
  have s1 := kI_ok (t := t) (p := p) (F := Ht p F r c k) (r := r) (w := w) (x8 := x8) (x9 := x9) (x10 := x10) k c hk hc
  rw [e0] at s1
  refine (seq_nx (ρ' := kE t p (lD m n (Ht p F r c k)) (some (k : Nat)) r w (some (c : Nat)) x8 x9 (some (.int (F k c)))) (set_to (chk_ok s1 rfl) rfl)).trans ?_
  have t1 : fB (fOp [4] [] gNe (fVar 4) (fVar 5)) (kE t p (lD m n (Ht p F r c k)) (some (k : Nat)) r w (some (c : Nat)) x8 x9 (some (.int (F k c)))) = some (!decide (((k : Nat) : Int) = (r : Nat)), kE t p (lD m n (Ht p F r c k)) (some (k : Nat)) r w (some (c : Nat)) x8 x9 (some (.int (F k c)))) := b_ok (op_ok rfl rfl rfl (gNe_i _ _))
  have t2 : fB (fOp [10] [] gNe (fVar 10) (fC (.int 0))) (kE t p (lD m n (Ht p F r c k)) (some (k : Nat)) r w (some (c : Nat)) x8 x9 (some (.int (F k c)))) = some (!decide (F k c = 0), kE t p (lD m n (Ht p F r c k)) (some (k : Nat)) r w (some (c : Nat)) x8 x9 (some (.int (F k c)))) := b_ok (op_ok rfl rfl rfl (gNe_i _ _))
  by_cases h : k = r
  · rw [decide_eq_true (by rw [h])] at t1
    refine (if_f (and_f t1)).trans ?_
    have e : lD m n (Ht p F r c k) = lD m n (Ht p F r c (k + 1)) := lD_congr fun i j _ _ => by
      unfold Ht
      by_cases q : i < k ∧ i ≠ r
      · rw [if_pos q, if_pos (by omega)]
      · rw [if_neg q, if_neg (by omega)]
    rw [e]
    rfl
  · rw [decide_eq_false (by omega)] at t1
    by_cases h0 : F k c = 0
    · rw [decide_eq_true h0] at t2
      refine (if_f ((and_t t1).trans t2)).trans ?_
      have e : lD m n (Ht p F r c k) = lD m n (Ht p F r c (k + 1)) := lD_congr fun i j hi hj => by
        unfold Ht
        by_cases q : i < k ∧ i ≠ r
        · rw [if_pos q, if_pos (by omega)]
        · rw [if_neg q]
          by_cases q2 : i < k + 1 ∧ i ≠ r
          · have : i = k := by omega
            subst this
            rw [if_pos q2, h0, Int.zero_mul, Int.sub_zero, Int.emod_eq_of_lt (red i j hi hj).1 (red i j hi hj).2]
          · rw [if_neg q2]
      rw [e]
      rfl
    · rw [decide_eq_false h0] at t2
      refine (if_t ((and_t t1).trans t2)).trans ?_
      have b := red k c hk hc
      have z := kZ_ok (t := t) (p := p) (H := Ht p F r c k) (r := r) (w := w) (i := k) (x8 := x8) (x9 := x9) (o7 := some (c : Nat)) (a := F k c) hp hn hr hk (by omega)
      have e : lD m n (setr (Ht p F r c k) k fun j => (Ht p F r c k k j - F k c * Ht p F r c k r j) % p) = lD m n (Ht p F r c (k + 1)) := lD_congr fun i j hi hj => by
        unfold setr
        by_cases q : i = k
        · subst q
          rw [if_pos rfl]
          show (Ht p F r c i i j - F i c * Ht p F r c i r j) % p = _
          rw [ek, er]
          unfold Ht
          rw [if_pos (by omega)]
        · rw [if_neg q]
          unfold Ht
          by_cases q2 : i < k ∧ i ≠ r
          · rw [if_pos q2, if_pos (by omega)]
          · rw [if_neg q2, if_neg (by omega)]
      rw [e] at z
      exact z
theorem kO_ok {F : Mx} {r w c : Nat} {o4 : Option Int} {x8 x9 x10 : Option D} (hp : 0 < p) (hn : n ≤ 1000) (hm : m ≤ 1000) (hr : r < m) (hc : c < n) (red : ∀ i j, i < m → j < n → 0 ≤ F i j ∧ F i j < p) (hp2 : p < 100) :
    ∃ o4' x10', kO (kE t p (lD m n F) o4 r w (some (c : Nat)) x8 x9 x10) = some (.nx (kE t p (lD m n (g3 p F r c)) o4' r w (some (c : Nat)) x8 x9 x10')) := by
  have e0 : lD m n F = lD m n (Ht p F r c 0) := lD_congr fun i j _ _ => by
    unfold Ht
    rw [if_neg (by omega)]
  obtain ⟨ρ', hf, o4', x10', rfl⟩ := for_inv (i := 4) (body := kJ) (fun k ρ => ∃ o4' x10', ρ = kE t p (lD m n (Ht p F r c k)) o4' r w (some (c : Nat)) x8 x9 x10') (nsD (List.range m)) 0 (kE t p (lD m n F) o4 r w (some (c : Nat)) x8 x9 x10) ⟨o4, x10, by rw [e0]⟩ fun k d ρ hd hI => by
    rw [Nat.zero_add] at hI ⊢
    obtain ⟨o4', x10', rfl⟩ := hI
    obtain ⟨hk, rfl⟩ := ns_get hd
    rw [List.length_range] at hk
    rw [ix_range hk]
    exact ⟨_, kJ_ok (x10 := x10') hp hn hr hk hc red hp2, some (k : Nat), some (.int (F k c)), rfl⟩
  rw [nsD_len, List.length_range, Nat.zero_add] at hf
  have it : iRg1 (fCons [] [] (fCl gLen (fCons [2] [] (fVar 2) fNil)) fNil) (kE t p (lD m n F) o4 r w (some (c : Nat)) x8 x9 x10) = some (nsD (List.range m), kE t p (lD m n F) o4 r w (some (c : Nat)) x8 x9 x10) := by
    rw [iRg1_ok (j := (m : Nat)) (ρ1 := kE t p (lD m n F) o4 r w (some (c : Nat)) x8 x9 x10) (cons_ok (cl_ok (cons_ok rfl rfl (safe_r1 _ _)) (by rw [gLen_l, lD_len])) rfl rfl) (okR_n (by omega) (by omega)), Int.toNat_natCast, rg0_ns]
  have e1 : lD m n (Ht p F r c m) = lD m n (g3 p F r c) := lD_congr fun i j hi _ => by
    unfold Ht g3
    by_cases h : i = r
    · rw [if_neg (by omega), if_pos h, h]
    · rw [if_pos ⟨hi, h⟩, if_neg h]
  refine ⟨o4', x10', (Vl.for_it it).trans ?_⟩
  rw [← e1]
  exact hf
theorem truth_nil (o : Bool) : truth (.lst o []) = some false := rfl
theorem kB_ok {A R : Mx} {r w c : Nat} {q : Nat → Nat} {o4 : Option Int} {x8 x9 x10 : Option D} (hp : p ∈ [2, 3, 5, 7, 11, 13]) (hn : n ≤ 1000) (hm : m ≤ 1000) (hc : c < n) (G : Gs (p : Nat) m n A c r R q) :
    ∃ o4' r' R' q' x8' x9' x10', kB (kE t p (lD m n R) o4 r w (some (c : Nat)) x8 x9 x10) = some (.nx (kE t p (lD m n R') o4' r' w (some (c : Nat)) x8' x9' x10')) ∧ Gs (p : Nat) m n A (c + 1) r' R' q' := by
  have p2 : 2 ≤ p ∧ p ≤ 13 := by
    simp only [List.mem_cons, List.not_mem_nil, or_false] at hp
    omega
  have s1 := kF_ok (t := t) (p := p) (F := R) (r := r) (w := w) (o4 := o4) (x8 := x8) (x9 := x9) (x10 := x10) c hm G.rm hc
  cases hl : (List.range' r (m - r)).filter fun i => !decide (R i c = 0) with
  | nil =>
    rw [hl] at s1
    refine ⟨o4, r, R, q, some (.lst true []), x9, x10, (seq_nx s1).trans ((if_f (tr_ok rfl rfl)).trans rfl), G.skip fun i h1 h2 => ?_⟩
    have := List.filter_eq_nil_iff.mp hl i (List.mem_range'_1.mpr (by omega))
    simpa using this
  | cons f l =>
    rw [hl] at s1
    have hf : f ∈ (List.range' r (m - r)).filter fun i => !decide (R i c = 0) := by rw [hl]; exact List.mem_cons_self
    obtain ⟨f1, f2⟩ := List.mem_filter.mp hf
    have f1 := List.mem_range'_1.mp f1
    have rf : R f c ≠ 0 := by simpa using f2
    have rm : r < m := by omega
    have fm : f < m := by omega
    have b := G.red f c fm hc
    obtain ⟨li, i1, i2, i3, i4⟩ := inv_ok hp b.1 b.2 rf
    have e1 : g1 R r f r c = R f c := by unfold g1 trn; rw [if_pos rfl]
    have s2 := kS_ok (t := t) (p := p) (n := n) (F := R) (r := r) (w := w) (f := f) (o4 := o4) (o7 := some (c : Nat)) (l := l) (x9 := x9) (x10 := x10) rm fm
    have s3 := kL_ok (t := t) (p := p) (F := g1 R r f) (r := r) (w := w) (c := c) (o4 := o4) (x8 := some (.lst true (nsD (f :: l)))) (x9 := x9) (x10 := x10) (l := li) rm hc (by rw [e1]; exact i1)
    have s4 := kM_ok (t := t) (p := p) (n := n) (F := g1 R r f) (r := r) (w := w) (o4 := o4) (o7 := some (c : Nat)) (x8 := some (.lst true (nsD (f :: l)))) (x10 := x10) (l := li) (by omega) hn rm (by omega)
    have rd : ∀ i j, i < m → j < n → 0 ≤ g2 p (g1 R r f) r li i j ∧ g2 p (g1 R r f) r li i j < p := fun i j hi hj => by
      unfold g2
      by_cases h : i = r
      · rw [if_pos h]
        exact ⟨Int.emod_nonneg _ (by omega), Int.emod_lt_of_pos _ (by omega)⟩
      · rw [if_neg h]
        exact G.red _ j (trn_lt rm fm hi) hj
    obtain ⟨o4', x10', s5⟩ := kO_ok (t := t) (p := p) (F := g2 p (g1 R r f) r li) (r := r) (w := w) (c := c) (o4 := o4) (x8 := some (.lst true (nsD (f :: l)))) (x9 := some (.int li)) (x10 := x10) (by omega) hn hm rm hc rd (by omega)
    refine ⟨o4', r + 1, gs p R r f c li, _, some (.lst true (nsD (f :: l))), some (.int li), x10', (seq_nx s1).trans ((if_t (tr_ok rfl rfl)).trans ?_), G.step (by omega) hc f1.1 fm i2⟩
    refine (seq_nx s2).trans ((seq_nx s3).trans ((seq_nx s4).trans ((seq_nx s5).trans ?_)))
    exact aug_to rfl rfl rfl rfl rfl
theorem rk1_ok {A : Mx} (hp : 0 < p) (hn : n ≤ 1000) (hm : m ≤ 1000) : rk1 [some (.tup (tD m n A)), some (.int (p : Nat)), none, none, none, none, none, none, none, none, none, none, none] = some (.nx [some (.tup (tD m n A)), some (.int (p : Nat)), some (.lst true (lD m n fun i j => A i j % p)), none, none, none, none, none, none, none, none, none, none]) := by
  have c := fComp_all (i := 4) (fi := iSeq (fVar 0)) (fe := (fFz (fComp [3] (iSeq (fVar 4)) (gNm 3) fYes (fOp [3] [] gMod (fVar 3) (fVar 1))))) (ρ0 := [some (.tup (tD m n A)), some (.int (p : Nat)), none, none, none, none, none, none, none, none, none, none, none]) (ρ1 := [some (.tup (tD m n A)), some (.int (p : Nat)), none, none, none, none, none, none, none, none, none, none, none])
    (fun d => match d with | .tup l => .lst false (l.map fun z => match z with | .int z => .int (z % p) | z => z) | d => d) (seq_it (d := .tup (tD m n A)) rfl (if_pos (no_tD m n A))) rfl (fun d hd => by
      obtain ⟨i, hi, rfl⟩ := List.mem_map.mp hd
      have c2 := comp_row (i := 3) (fi := iSeq (fVar 4)) (fe := (fOp [3] [] gMod (fVar 3) (fVar 1))) (ρ0 := [some (.tup (tD m n A)), some (.int (p : Nat)), none, none, some (.tup (rwN n (A i))), none, none, none, none, none, none, none, none]) (ρ1 := [some (.tup (tD m n A)), some (.int (p : Nat)), none, none, some (.tup (rwN n (A i))), none, none, none, none, none, none, none, none]) (x := A i) (fun z => z % p)
        (seq_it (d := .tup (rwN n (A i))) rfl (if_pos (no_rwN n _))) rfl (fun z _ => op_ok rfl rfl rfl (by rw [gMod_i (by omega), fmod_p (by omega)])) hn
      have e : (rwN n (A i)).map (fun z => match z with | .int z => D.int (z % p) | z => z) = rwN n fun j => A i j % p := by
        unfold rwN
        rw [List.map_map]
        rfl
      show fFz _ _ = some (D.lst false ((rwN n (A i)).map fun z => match z with | .int z => D.int (z % p) | z => z), _)
      rw [e, ← fz_row]
      exact fz_ok c2) (by rw [tD_len]; omega)
  have e : (tD m n A).map (fun d => match d with | .tup l => D.lst false (l.map fun z => match z with | .int z => .int (z % p) | z => z) | d => d) = lD m n fun i j => A i j % p := by
    unfold tD lD
    rw [List.map_map]
    refine List.map_congr_left fun i _ => ?_
    show D.lst false ((rwN n (A i)).map _) = _
    congr 1
    unfold rwN
    rw [List.map_map]
    rfl
  rw [e] at c
  exact set_to c rfl
theorem rank_ok {A : Mx} (hp : p ∈ [2, 3, 5, 7, 11, 13]) (h1 : 1 ≤ m) (hm : m ≤ 1000) (hn : n ≤ 1000) : ∃ (r : Nat) (R : Mx) (q : Nat → Nat), F_rank_modulo [.tup (tD m n A), .int (p : Nat)] = some (.int (r : Nat), []) ∧ Gs (p : Nat) m n A n r R q := by
  have p2 : 2 ≤ p ∧ p ≤ 13 := by
    simp only [List.mem_cons, List.not_mem_nil, or_false] at hp
    omega
  obtain ⟨ρ', hf, o4, r, R, q, o7, x8, x9, x10, rfl, G⟩ := for_inv (i := 7) (body := kB) (fun c ρ => ∃ o4 r R q o7 x8 x9 x10, ρ = kE (.tup (tD m n A)) p (lD m n R) o4 r n o7 x8 x9 x10 ∧ Gs (p : Nat) m n A c r R q) (nsD (List.range n)) 0 (kE (.tup (tD m n A)) p (lD m n fun i j => A i j % p) none 0 n none none none none) ⟨none, 0, _, _, none, none, none, none, rfl, Gs.start (by omega) A⟩ fun c d ρ hd hI => by
    rw [Nat.zero_add] at hI ⊢
    obtain ⟨o4, r, R, q, o7, x8, x9, x10, rfl, G⟩ := hI
    obtain ⟨hc, rfl⟩ := ns_get hd
    rw [List.length_range] at hc
    rw [ix_range hc]
    obtain ⟨o4', r', R', q', x8', x9', x10', e, G'⟩ := kB_ok (t := .tup (tD m n A)) (w := n) (o4 := o4) (x8 := x8) (x9 := x9) (x10 := x10) hp hn hm hc G
    exact ⟨_, e, o4', r', R', q', some (c : Nat), x8', x9', x10', rfl, G'⟩
  rw [nsD_len, List.length_range, Nat.zero_add] at G
  refine ⟨r, R, q, ?_, G⟩
  rw [rk_split]
  refine run_at (ρ0 := [some (.tup (tD m n A)), some (.int (p : Nat)), none, none, none, none, none, none, none, none, none, none, none]) (ρ := [some (.tup (tD m n A)), some (.int (p : Nat)), some (.lst true (lD m n R)), none, o4.map D.int, none, some (.int (n : Nat)), o7.map D.int, x8, x9, x10, none, none]) rfl rfl ?_
  rw [seq_nx (rk1_ok (by omega) hn hm)]
  rw [seq_nx (ρ' := [some (.tup (tD m n A)), some (.int (p : Nat)), some (.lst true (lD m n fun i j => A i j % p)), none, none, some (.int 0), none, none, none, none, none, none, none]) (set_to rfl rfl)]
  have tr : truth (.lst true (lD m n fun i j => A i j % p)) = some true := by
    obtain ⟨k, rfl⟩ : ∃ k, m = k + 1 := ⟨m - 1, by omega⟩
    unfold lD
    rw [List.range_succ_eq_map]
    rfl
  rw [seq_nx (ρ' := kE (.tup (tD m n A)) p (lD m n fun i j => A i j % p) none 0 n none none none none) (set_to ((ifx_t (tr_ok rfl tr)).trans (cl_ok (cons_ok (ixl_ok rfl rfl rfl (lD_at 0 rfl (by omega))) rfl (safe_r1 _ _)) (by rw [gLen_l, rwN_len]))) rfl)]
  have it : iRg1 (fCons [6] [] (fVar 6) fNil) (kE (.tup (tD m n A)) p (lD m n fun i j => A i j % p) none 0 n none none none none) = some (nsD (List.range n), kE (.tup (tD m n A)) p (lD m n fun i j => A i j % p) none 0 n none none none none) := by
    rw [iRg1_ok (j := (n : Nat)) (ρ1 := kE (.tup (tD m n A)) p (lD m n fun i j => A i j % p) none 0 n none none none none) (cons_ok rfl rfl rfl) (okR_n (by omega) (by omega)), Int.toNat_natCast, rg0_ns]
  rw [seq_nx ((Vl.for_it it).trans hf)]
  rfl
theorem rank_nil : F_rank_modulo [.tup [], .int (p : Nat)] = some (.int 0, []) := rfl
end
end G07

namespace G07
open PySem PySem.Spec PyProof.Rows L2 Vl Pm Dt
theorem sl_ok {O1 T2 : List Nat} {f : M D} {fl fh : M (Option Int)} {d r : D} {lo hi : Option Int} {ρ ρ1 ρ2 ρ3 : Vl.Env} (h1 : f ρ = some (d, ρ1)) (h2 : fl ρ1 = some (lo, ρ2)) (h3 : fh ρ2 = some (hi, ρ3)) (hs : safe O1 T2 d = true) (h4 : gSl d lo hi = some r) : fSl O1 T2 f fl fh ρ = some (r, ρ3) := by
  show (f ρ).bind _ = _
  rw [h1, Option.bind_some, h2, Option.bind_some, h3, Option.bind_some, if_pos hs, h4]
  rfl
theorem osome_ok {f : M D} {i : Int} {ρ ρ1 : Vl.Env} (h : f ρ = some (.int i, ρ1)) : oSome f ρ = some (some i, ρ1) := by
  show (f ρ).bind _ = _
  rw [h]
  rfl
theorem cut_from (l : List D) (k : Nat) (h : k ≤ l.length) : cutL l (some (k : Int)) none = l.drop k := by
  unfold cutL
  rw [HT.sIx_none, HT.sIx_nat, Nat.min_eq_left h]
  exact List.take_of_length_le (by rw [List.length_drop]; omega)
theorem cut_to (l : List D) (k : Nat) (h : k ≤ l.length) : cutL l none (some (k : Int)) = l.take k := by
  unfold cutL
  rw [HT.sIx_none, HT.sIx_nat, Nat.min_eq_left h]
  rfl
theorem sl_from {l : List D} {o : Bool} (k : Nat) (j : Int) (e : j = (k : Nat)) (h : k ≤ l.length) (hn : D.noOwnL l = true) : gSl (.lst o l) (some j) none = some (.lst true (l.drop k)) := by
  subst e
  show (if D.noOwnL l = true then some (D.lst true (cutL l (some (k : Int)) none)) else none) = _
  rw [if_pos hn, cut_from _ _ h]
theorem sl_to {l : List D} {o : Bool} (k : Nat) (j : Int) (e : j = (k : Nat)) (h : k ≤ l.length) (hn : D.noOwnL l = true) : gSl (.lst o l) none (some j) = some (.lst true (l.take k)) := by
  subst e
  show (if D.noOwnL l = true then some (D.lst true (cutL l none (some (k : Int)))) else none) = _
  rw [if_pos hn, cut_to _ _ h]
def mat (k : Nat) (G : Mx) : D := .lst false (lD k k G)
def mnr (G : Mx) (c : Nat) : Mx := fun i j => G (i + 1) (if j < c then j else j + 1)
def sgn (c : Nat) : Int := if c % 2 = 0 then 1 else -1
def dtp (k : Nat) (G : Mx) (c : Nat) : Int := ((List.range c).map fun c => sgn c * G 0 c * dt k (mnr G c)).sum
theorem dt_dtp (k : Nat) (G : Mx) : dt (k + 1) G = dtp k G (k + 1) := rfl
theorem dtp_succ (k : Nat) (G : Mx) (c : Nat) : dtp k G (c + 1) = dtp k G c + sgn c * G 0 c * dt k (mnr G c) := by
  unfold dtp
  rw [List.range_succ, List.map_append, List.sum_append]
  simp
theorem cut_row {k c : Nat} (x : Nat → Int) (hc : c < k + 1) : (rwN (k + 1) x).take c ++ (rwN (k + 1) x).drop (c + 1) = rwN k fun j => x (if j < c then j else j + 1) := by
  refine List.ext_getElem? fun j => ?_
  have e : ∀ (n : Nat) (y : Nat → Int) (i : Nat), (rwN n y)[i]? = if i < n then some (.int (y i)) else none := fun n y i => by
    unfold rwN
    by_cases h : i < n
    · rw [if_pos h, List.getElem?_map, List.getElem?_range h]
      rfl
    · rw [if_neg h, List.getElem?_eq_none (by simp; omega)]
  have tl : ((rwN (k + 1) x).take c).length = c := by rw [List.length_take, rwN_len]; omega
  by_cases h : j < c
  · rw [List.getElem?_append_left (by omega), List.getElem?_take, if_pos h, e, e, if_pos (by omega), if_pos (by omega), if_pos h]
  · rw [List.getElem?_append_right (by omega), tl, List.getElem?_drop, e, e, if_neg h]
    by_cases h2 : j < k
    · rw [if_pos h2, if_pos (by omega), show c + 1 + (j - c) = j + 1 by omega]
    · rw [if_neg h2, if_neg (by omega)]
abbrev deB (next : FD) : MS := (sIf (fB (fOp [0] [] gNe (fOp [0] [] gIxA (fOp [0] [] gIxA (fVar 0) (fC (.int 0))) (fVar 2)) (fC (.int 0)))) (sSeq (sSet 3 (fComp [4] (iSeq (fSl [0] [] (fVar 0) (oSome (fC (.int 1))) oNone)) (gNm 4) fYes (fFz (fOp [] [] gAdd (fCl gListA (fCons [] [] (fSl [4] [] (fVar 4) oNone (oSome (fVar 2))) fNil)) (fCl gListA (fCons [] [] (fSl [4] [] (fVar 4) (oSome (fOp [2] [] gAdd (fVar 2) (fC (.int 1)))) oNone) fNil))))))
    (sSet 1 (fOp [1] [] gAdd (fVar 1) (fOp [] [] gMul (fOp [] [] gMul (fOp [] [] gSub (fC (.int 1)) (fOp [] [] gMul (fC (.int 2)) (fOp [] [] gMod (fCl gInt (fCons [2] [] (fVar 2) fNil)) (fC (.int 2))))) (fOp [0] [] gIxA (fOp [0] [] gIxA (fVar 0) (fC (.int 0))) (fVar 2))) (fCall next (fCons [3] [] (fVar 3) fNil)))))) sNil)
def detF (next : FD) : FD := runF 1 0 5 (sSeq (sIf (fB (fOp [] [] gEq (fCl gLen (fCons [0] [] (fVar 0) fNil)) (fC (.int 0)))) (sRet (fC (.int 1))) sNil) (sSeq (sSet 1 (fC (.int 0))) (sSeq (sFor (iRg1 (fCons [] [] (fCl gLen (fCons [0] [] (fVar 0) fNil)) fNil)) (gNm 2) (deB next)) (sRet (fMov 1)))))
theorem d1 : F__law_det_1 = detF F__law_det_0 := rfl
theorem d2 : F__law_det_2 = detF F__law_det_1 := rfl
theorem d3 : F__law_det_3 = detF F__law_det_2 := rfl
theorem d4 : F__law_det_4 = detF F__law_det_3 := rfl
theorem d5 : F__law_det = detF F__law_det_4 := rfl
def Sml (k : Nat) (G : Mx) : Prop := ∀ i j, i < k → j < k → (G i j).natAbs < 2 ^ 63
theorem det_zero (next : FD) (G : Mx) : detF next [mat 0 G] = some (.int 1, []) := rfl
theorem sgn_ok (c : Nat) : (1 : Int) - 2 * (((c : Nat) : Int).fmod 2) = sgn c := by
  rw [Int.fmod_eq_emod_of_nonneg _ (by decide)]
  unfold sgn
  split <;> omega
theorem frz_lD (m n : Nat) (F : Mx) : D.frzL (lD m n F) = lD m n F := by
  unfold lD
  generalize List.range m = L
  induction L with
  | nil => rfl
  | cons x r ih =>
    show D.lst false (D.frzL (rwN n (F x))) :: D.frzL (r.map fun i => D.lst false (rwN n (F i))) = _
    rw [frz_rwN, ih]
    rfl
theorem call_f {F : FD} {fr : M (List D)} {ds es : List D} {r : D} {ρ ρ1 : Vl.Env} (h : fr ρ = some (ds, ρ1)) (hf : D.frzL ds = es) (h2 : F es = some (r, [])) (hn : r.noFz = true) : fCall F fr ρ = some (r, ρ1) := by
  show (fr ρ).bind _ = _
  rw [h, Option.bind_some, hf, h2, Option.bind_some, if_pos (by rw [hn, Bool.true_or])]
theorem det_step (next : FD) {k : Nat} (hk : k ≤ 10) {G : Mx} (hb : Sml (k + 1) G) (hn : ∀ G', Sml k G' → next [mat k G'] = some (.int (dt k G'), [])) : detF next [mat (k + 1) G] = some (.int (dt (k + 1) G), []) := by
  have ix : ∀ (c : Nat) (tot : Int) (x3 : Option D), c < k + 1 → fOp [0] [] gIxA (fOp [0] [] gIxA (fVar 0) (fC (.int 0))) (fVar 2) [some (mat (k + 1) G), some (.int tot), some (.int (c : Nat)), x3, none] = some (.int (G 0 c), [some (mat (k + 1) G), some (.int tot), some (.int (c : Nat)), x3, none]) := fun c tot x3 hc =>
    ixl_ok (ixl_ok (o := false) (l := lD (k + 1) (k + 1) G) rfl rfl (show safe [0] [] (mat (k + 1) G) = true from safe_r1 _ _) (lD_at 0 rfl (by omega))) rfl rfl (rwN_at c rfl hc)
  obtain ⟨ρ', hf, x2, x3, rfl⟩ := for_inv (i := 2) (body := deB next) (fun c ρ => ∃ x2 x3, ρ = [some (mat (k + 1) G), some (.int (dtp k G c)), x2, x3, none]) (nsD (List.range (k + 1))) 0 [some (mat (k + 1) G), some (.int 0), none, none, none] ⟨none, none, rfl⟩ fun c d ρ hd hI => by
    rw [Nat.zero_add] at hI ⊢
    obtain ⟨x2, x3, rfl⟩ := hI
    obtain ⟨hc, rfl⟩ := ns_get hd
    rw [List.length_range] at hc
    rw [ix_range hc]
    have tt : fB (fOp [0] [] gNe (fOp [0] [] gIxA (fOp [0] [] gIxA (fVar 0) (fC (.int 0))) (fVar 2)) (fC (.int 0))) [some (mat (k + 1) G), some (.int (dtp k G c)), some (.int (c : Nat)), x3, none] = some (!decide (G 0 c = 0), [some (mat (k + 1) G), some (.int (dtp k G c)), some (.int (c : Nat)), x3, none]) := b_ok (op_ok (ix c _ x3 hc) rfl rfl (gNe_i _ _))
    by_cases h0 : G 0 c = 0
    · rw [decide_eq_true h0] at tt
      refine ⟨_, (if_f tt).trans rfl, some (.int (c : Nat)), x3, ?_⟩
      rw [dtp_succ, h0, Int.mul_zero, Int.zero_mul, Int.add_zero]
    · rw [decide_eq_false h0] at tt
      refine ⟨[some (mat (k + 1) G), some (.int (dtp k G (c + 1))), some (.int (c : Nat)), some (.lst true (lD k k (mnr G c))), none], (if_t tt).trans ?_, _, _, rfl⟩
      have dr : (lD (k + 1) (k + 1) G).drop 1 = (List.range k).map fun i => .lst false (rwN (k + 1) (G (i + 1))) := by
        unfold lD
        rw [List.range_succ_eq_map, List.map_cons, List.drop_one, List.tail_cons, List.map_map]
        rfl
      have nd : D.noOwnL ((List.range k).map fun i => .lst false (rwN (k + 1) (G (i + 1)))) = true := by
        generalize List.range k = L
        induction L with
        | nil => rfl
        | cons x r ih =>
          show (D.noOwnL (rwN (k + 1) (G (x + 1))) && D.noOwnL (r.map fun i => D.lst false (rwN (k + 1) (G (i + 1))))) = true
          rw [no_rwN, ih]
          rfl
      have it : iSeq (fSl [0] [] (fVar 0) (oSome (fC (.int 1))) oNone) [some (mat (k + 1) G), some (.int (dtp k G c)), some (.int (c : Nat)), x3, none] = some ((List.range k).map fun i => .lst false (rwN (k + 1) (G (i + 1))), [some (mat (k + 1) G), some (.int (dtp k G c)), some (.int (c : Nat)), x3, none]) := by
        refine seq_it (d := .lst true ((List.range k).map fun i => .lst false (rwN (k + 1) (G (i + 1))))) (sl_ok (d := mat (k + 1) G) rfl rfl rfl (safe_r1 _ _) ?_) (if_pos nd)
        rw [← dr]
        exact sl_from 1 1 rfl (by rw [lD_len]; omega) (no_lD _ _ _)
      have cc := fComp_all (i := 4) (fi := (iSeq (fSl [0] [] (fVar 0) (oSome (fC (.int 1))) oNone))) (fe := (fFz (fOp [] [] gAdd (fCl gListA (fCons [] [] (fSl [4] [] (fVar 4) oNone (oSome (fVar 2))) fNil)) (fCl gListA (fCons [] [] (fSl [4] [] (fVar 4) (oSome (fOp [2] [] gAdd (fVar 2) (fC (.int 1)))) oNone) fNil)))))
        (fun d => match d with | .lst _ l => .lst false (l.take c ++ l.drop (c + 1)) | d => d) it rfl (fun d hd => by
          obtain ⟨i, hi, rfl⟩ := List.mem_map.mp hd
          have n1 : D.noOwnL ((rwN (k + 1) (G (i + 1))).take c) = true := by rw [rwN_int, ← List.map_take]; exact noOwnL_ints _
          have n2 : D.noOwnL ((rwN (k + 1) (G (i + 1))).drop (c + 1)) = true := by rw [rwN_int, ← List.map_drop]; exact noOwnL_ints _
          have t1 := sl_ok (ρ := [some (mat (k + 1) G), some (.int (dtp k G c)), some (.int (c : Nat)), x3, some (.lst false (rwN (k + 1) (G (i + 1))))]) (f := fVar 4) (fl := oNone) (fh := oSome (fVar 2)) (O1 := [4]) (T2 := []) rfl rfl rfl (safe_r1 _ _) (sl_to (o := false) (l := rwN (k + 1) (G (i + 1))) c c rfl (by rw [rwN_len]; omega) (no_rwN _ _))
          have t2 := sl_ok (ρ := [some (mat (k + 1) G), some (.int (dtp k G c)), some (.int (c : Nat)), x3, some (.lst false (rwN (k + 1) (G (i + 1))))]) (f := fVar 4) (fl := oSome (fOp [2] [] gAdd (fVar 2) (fC (.int 1)))) (fh := oNone) (O1 := [4]) (T2 := []) rfl (osome_ok (op_ok rfl rfl rfl (gAdd_i _ _))) rfl (safe_r1 _ _) (sl_from (o := false) (l := rwN (k + 1) (G (i + 1))) (c + 1) _ rfl (by rw [rwN_len]; omega) (no_rwN _ _))
          have la : ∀ l : List D, D.noOwnL l = true → gListA [.lst true l] = some (.lst true l) := fun l hl => if_pos hl
          have ga : gAdd (.lst true ((rwN (k + 1) (G (i + 1))).take c)) (.lst true ((rwN (k + 1) (G (i + 1))).drop (c + 1))) = some (.lst true ((rwN (k + 1) (G (i + 1))).take c ++ (rwN (k + 1) (G (i + 1))).drop (c + 1))) := by
            show (if (szOk (_ + _) && D.noOwnL _ && D.noOwnL _) = true then some (D.lst true (_ ++ _)) else none) = _
            rw [n1, n2, if_pos (by rw [Bool.and_true, Bool.and_true]; exact decide_eq_true (by rw [List.length_take, List.length_drop, rwN_len]; omega))]
          have fz : (D.lst true ((rwN (k + 1) (G (i + 1))).take c ++ (rwN (k + 1) (G (i + 1))).drop (c + 1))).frz = .lst false ((rwN (k + 1) (G (i + 1))).take c ++ (rwN (k + 1) (G (i + 1))).drop (c + 1)) := by
            rw [cut_row _ hc]
            exact fz_row _ _
          show fFz _ _ = some (D.lst false ((rwN (k + 1) (G (i + 1))).take c ++ (rwN (k + 1) (G (i + 1))).drop (c + 1)), _)
          rw [← fz]
          exact fz_ok (op_ok (cl_ok (cons_ok t1 rfl rfl) (la _ n1)) (cl_ok (cons_ok t2 rfl rfl) (la _ n2)) rfl ga)) (by simp; omega)
      have e : ((List.range k).map fun i => D.lst false (rwN (k + 1) (G (i + 1)))).map (fun d => match d with | .lst _ l => .lst false (l.take c ++ l.drop (c + 1)) | d => d) = lD k k (mnr G c) := by
        rw [List.map_map]
        unfold lD
        refine List.map_congr_left fun i _ => ?_
        show D.lst false ((rwN (k + 1) (G (i + 1))).take c ++ (rwN (k + 1) (G (i + 1))).drop (c + 1)) = _
        rw [cut_row _ hc]
        rfl
      rw [e] at cc
      rw [seq_nx (ρ' := [some (mat (k + 1) G), some (.int (dtp k G c)), some (.int (c : Nat)), some (.lst true (lD k k (mnr G c))), none]) (set_to cc rfl)]
      have sm : Sml k (mnr G c) := fun i j hi hj => hb (i + 1) _ (by omega) (by split <;> omega)
      have cal : fCall next (fCons [3] [] (fVar 3) fNil) [some (mat (k + 1) G), some (.int (dtp k G c)), some (.int (c : Nat)), some (.lst true (lD k k (mnr G c))), none] = some (.int (dt k (mnr G c)), [some (mat (k + 1) G), some (.int (dtp k G c)), some (.int (c : Nat)), some (.lst true (lD k k (mnr G c))), none]) :=
        call_f (ds := [.lst true (lD k k (mnr G c))]) (es := [mat k (mnr G c)]) (cons_ok rfl rfl (safe_r1 _ _)) (by
          show [D.lst false (D.frzL (lD k k (mnr G c)))] = _
          rw [frz_lD]
          rfl) (hn _ sm) rfl
      have b0 := hb 0 c (by omega) hc
      have sg : (sgn c * G 0 c).natAbs < 2 ^ 63 := by
        unfold sgn
        split <;> omega
      have s2 : (sgn c).natAbs < 2 ^ 63 := by
        unfold sgn
        split <;> decide
      refine set_to (op_ok rfl (op_ok (op_ok (op_ok rfl (op_ok rfl (op_ok (cl_ok (cons_ok rfl rfl (safe_r1 _ _)) (gInt_i _)) rfl rfl (gMod_i (by decide))) rfl (gMul_i (cMul_l (by decide)))) rfl (gSub_i _ _)) (ix c _ _ hc) rfl ?_) cal rfl (gMul_i (cMul_l sg))) rfl (gAdd_i _ _)) ?_
      · rw [sgn_ok]
        exact gMul_i (cMul_l s2)
      · rw [dtp_succ]
        rfl
  rw [nsD_len, List.length_range, Nat.zero_add, ← dt_dtp] at hf
  unfold detF
  refine run_at (ρ0 := [some (mat (k + 1) G), none, none, none, none]) (ρ := [some (mat (k + 1) G), none, x2, x3, none]) rfl rfl ?_
  have ln : gLen [mat (k + 1) G] = some (.int ((k + 1 : Nat) : Nat)) := by
    show gLen [.lst false (lD (k + 1) (k + 1) G)] = _
    rw [gLen_l, lD_len]
  have it : iRg1 (fCons [] [] (fCl gLen (fCons [0] [] (fVar 0) fNil)) fNil) [some (mat (k + 1) G), some (.int 0), none, none, none] = some (nsD (List.range (k + 1)), [some (mat (k + 1) G), some (.int 0), none, none, none]) := by
    rw [iRg1_ok (j := ((k + 1 : Nat) : Nat)) (ρ1 := [some (mat (k + 1) G), some (.int 0), none, none, none]) (cons_ok (cl_ok (cons_ok rfl rfl (safe_r1 _ _)) ln) rfl rfl) (okR_n (by omega) (by omega)), Int.toNat_natCast, rg0_ns]
  rw [seq_nx ((if_f (b_ok (op_ok (cl_ok (cons_ok rfl rfl (safe_r1 _ _)) ln) rfl rfl ((gEq_i _ _).trans (by rw [decide_eq_false (by omega)]))))).trans rfl)]
  rw [seq_nx (ρ' := [some (mat (k + 1) G), some (.int 0), none, none, none]) (set_to rfl rfl)]
  rw [seq_nx ((Vl.for_it it).trans hf)]
  rfl
theorem det_ok {k : Nat} (hk : k ≤ 4) {G : Mx} (hb : Sml k G) : F__law_det [mat k G] = some (.int (dt k G), []) := by
  have a1 : ∀ G, F__law_det_1 [mat 0 G] = some (.int (dt 0 G), []) := fun G => det_zero _ G
  have a2 : ∀ G, F__law_det_2 [mat 0 G] = some (.int (dt 0 G), []) := fun G => det_zero _ G
  have a3 : ∀ G, F__law_det_3 [mat 0 G] = some (.int (dt 0 G), []) := fun G => det_zero _ G
  have b2 : ∀ G, Sml 1 G → F__law_det_2 [mat 1 G] = some (.int (dt 1 G), []) := fun G h => det_step _ (by decide) h fun G _ => a1 G
  have b3 : ∀ G, Sml 1 G → F__law_det_3 [mat 1 G] = some (.int (dt 1 G), []) := fun G h => det_step _ (by decide) h fun G _ => a2 G
  have b4 : ∀ G, Sml 1 G → F__law_det_4 [mat 1 G] = some (.int (dt 1 G), []) := fun G h => det_step _ (by decide) h fun G _ => a3 G
  have c3 : ∀ G, Sml 2 G → F__law_det_3 [mat 2 G] = some (.int (dt 2 G), []) := fun G h => det_step _ (by decide) h b2
  have c4 : ∀ G, Sml 2 G → F__law_det_4 [mat 2 G] = some (.int (dt 2 G), []) := fun G h => det_step _ (by decide) h b3
  have e4 : ∀ G, Sml 3 G → F__law_det_4 [mat 3 G] = some (.int (dt 3 G), []) := fun G h => det_step _ (by decide) h c3
  have a4 : ∀ G, F__law_det_4 [mat 0 G] = some (.int (dt 0 G), []) := fun G => det_zero _ G
  rcases (show k = 0 ∨ k = 1 ∨ k = 2 ∨ k = 3 ∨ k = 4 by omega) with e | e | e | e | e <;> subst e
  · exact det_zero _ G
  · exact det_step _ (by decide) hb fun G _ => a4 G
  · exact det_step _ (by decide) hb b4
  · exact det_step _ (by decide) hb c4
  · exact det_step _ (by decide) hb e4
end G07

namespace G07
open PySem PySem.Spec PyProof.Rows L2 Vl Pm Dt
/-! ### _law_choices -/
def chf (k : Nat) : Nat → List (List Nat)
  | 0 => [[]]
  | c + 1 => chf k c ++ ((chf k c).filter fun l => decide (l.length < k)).map fun l => l ++ [c]
def chs (c k : Nat) : List (List Nat) := (chf k c).filter fun l => decide (l.length = k)
def tns (l : List Nat) : D := .tup (nsD l)
theorem ch_ok {c k : Nat} (hc : 1 ≤ c ∧ c ≤ 4) (hk : 1 ≤ k ∧ k ≤ 4) : F__law_choices [.int (c : Nat), .int (k : Nat)] = some (.lst true ((chs c k).map tns), []) := by
  obtain ⟨c1, c2⟩ := hc
  obtain ⟨k1, k2⟩ := hk
  rcases (show c = 1 ∨ c = 2 ∨ c = 3 ∨ c = 4 by omega) with e | e | e | e <;> subst e <;>
    rcases (show k = 1 ∨ k = 2 ∨ k = 3 ∨ k = 4 by omega) with e | e | e | e <;> subst e <;> kernel_rfl
theorem ch_all : (List.range 5).all (fun c => (List.range 5).all fun k => (chs c k).all fun l => decide (l.length = k) && l.all fun x => decide (x < c)) = true := by decide +kernel
theorem ch_in {c k : Nat} (hc : 1 ≤ c ∧ c ≤ 4) (hk : 1 ≤ k ∧ k ≤ 4) {l : List Nat} (hl : l ∈ chs c k) : l.length = k ∧ ∀ x ∈ l, x < c := by
  have h := List.all_eq_true.mp (List.all_eq_true.mp (List.all_eq_true.mp ch_all c (List.mem_range.mpr (by omega))) k (List.mem_range.mpr (by omega))) l hl
  rw [Bool.and_eq_true] at h
  exact ⟨of_decide_eq_true h.1, fun x hx => of_decide_eq_true (List.all_eq_true.mp h.2 x hx)⟩
theorem ch_small : (List.range 5).all (fun c => (List.range 5).all fun k => decide ((chs c k).length ≤ 6)) = true := by decide +kernel
def upT : Nat → List Nat → Bool
  | k, l => (List.range (k - 1)).all fun i => decide (ix l i < ix l (i + 1))
theorem ch_ex : (List.range 5).all (fun c => (List.range 4).all fun k => (tp c (k + 1)).all fun l => !(upT (k + 1) l) || decide (l ∈ chs c (k + 1))) = true := by decide +kernel
theorem ch_mem {c k : Nat} (hc : 1 ≤ c ∧ c ≤ 4) (hk : 1 ≤ k ∧ k ≤ 4) {I : Nat → Nat} (a : Asc k I) (h : ∀ i, i < k → I i < c) : (List.range k).map I ∈ chs c k := by
  obtain ⟨k, rfl⟩ : ∃ j, k = j + 1 := ⟨k - 1, by omega⟩
  have q := List.all_eq_true.mp (List.all_eq_true.mp (List.all_eq_true.mp ch_ex c (List.mem_range.mpr (by omega))) k (List.mem_range.mpr (by omega))) ((List.range (k + 1)).map I) ((mem_tp _ _ _).mpr ⟨by simp, fun x hx => by
    obtain ⟨i, hi, rfl⟩ := List.mem_map.mp hx
    exact h i (List.mem_range.mp hi)⟩)
  have u : upT (k + 1) ((List.range (k + 1)).map I) = true := List.all_eq_true.mpr fun i hi => by
    have hi := List.mem_range.mp hi
    rw [ix_map (by rw [List.length_range]; omega), ix_map (by rw [List.length_range]; omega), ix_range (by omega), ix_range (by omega)]
    exact decide_eq_true (a i (by omega))
  rw [u] at q
  exact of_decide_eq_true (by simpa using q)
/-! ### a search -/
theorem forL_rt {g : D → Vl.Env → Option Vl.Env} {body : MS} {d e : D} {ds : List D} {ρ ρ1 ρ2 : Vl.Env} (h1 : g d ρ = some ρ1) (h2 : body ρ1 = some (.rt e ρ2)) : forL g body (d :: ds) ρ = some (.rt e ρ2) := by
  rw [forL, h1, Option.bind_some, h2]
  rfl
theorem for_find {α : Type} {i : Nat} {body : MS} (f : α → D) (I : Vl.Env → Prop) (hit : α → Prop) : ∀ (L : List α) (ρ : Vl.Env), I ρ → (∀ a ∈ L, ∀ ρ, I ρ → ∃ ρ', (hit a ∧ body (ρ.set i (some (f a))) = some (.rt (.bl true) ρ')) ∨ (¬ hit a ∧ body (ρ.set i (some (f a))) = some (.nx ρ') ∧ I ρ')) →
    ∃ ρ', ((∃ a ∈ L, hit a) ∧ forL (gNm i) body (L.map f) ρ = some (.rt (.bl true) ρ')) ∨ ((∀ a ∈ L, ¬ hit a) ∧ forL (gNm i) body (L.map f) ρ = some (.nx ρ') ∧ I ρ')
  | [], ρ, h, _ => ⟨ρ, .inr ⟨fun a ha => (List.not_mem_nil ha).elim, rfl, h⟩⟩
  | a :: L, ρ, h, hs => by
    obtain ⟨ρ1, s | s⟩ := hs a List.mem_cons_self ρ h
    · exact ⟨ρ1, .inl ⟨⟨a, List.mem_cons_self, s.1⟩, forL_rt (ρ1 := ρ.set i (some (f a))) rfl s.2⟩⟩
    · obtain ⟨ρ2, q⟩ := for_find f I hit L ρ1 s.2.2 fun b hb => hs b (List.mem_cons_of_mem _ hb)
      refine ⟨ρ2, ?_⟩
      rw [List.map_cons, forL_nx (ρ1 := ρ.set i (some (f a))) rfl s.2.1]
      rcases q with ⟨⟨b, hb, hh⟩, e⟩ | ⟨hh, e⟩
      · exact .inl ⟨⟨b, List.mem_cons_of_mem _ hb, hh⟩, e⟩
      · refine .inr ⟨fun b hb => ?_, e⟩
        rcases List.mem_cons.mp hb with rfl | hb
        · exact s.1
        · exact hh b hb
end G07

namespace G07
open PySem PySem.Spec PyProof.Rows L2 Vl Pm Dt
/-! ### _law_has -/
abbrev haP : MS := (sSet 5 (fComp [7] (iSeq (fVar 3)) (gNm 7) fYes (fFz (fComp [6] (iSeq (fVar 4)) (gNm 6) fYes (chk (fOp [0] [] gIxA (fOp [0] [] gIxA (fVar 0) (fVar 7)) (fVar 6)))))))
abbrev haT : MS := (sIf (fB (fOp [] [] gNe (fOp [] [] gMod (fCl gInt (fCons [] [] (fCall F__law_det (fCons [5] [] (fVar 5) fNil)) fNil)) (fVar 2)) (fC (.int 0)))) (sRet (fC (.bl true))) sNil)
abbrev haI2 : M (List D) := (iSeq (fCall F__law_choices (fCons [] [] (fCl gLen (fCons [0] [] (fOp [0] [] gIxA (fVar 0) (fC (.int 0))) fNil)) (fCons [1] [] (fVar 1) fNil))))
abbrev haI1 : M (List D) := (iSeq (fCall F__law_choices (fCons [] [] (fCl gLen (fCons [0] [] (fVar 0) fNil)) (fCons [1] [] (fVar 1) fNil))))
theorem has_split : F__law_has = runF 3 0 8 (sSeq (sFor haI1 (gNm 3) (sFor haI2 (gNm 4) (sSeq haP haT))) (sRet (fC (.bl false)))) := rfl
def pick (A : Mx) (l1 l2 : List Nat) : Mx := fun i j => A (ix l1 i) (ix l2 j)
theorem map_ixs {l : List Nat} {k : Nat} (h : l.length = k) {β : Type} (f : Nat → β) : l.map f = (List.range k).map fun i => f (ix l i) := by
  subst h
  refine List.ext_getElem (by simp) fun i h1 h2 => ?_
  rw [List.getElem_map, List.getElem_map, List.getElem_range, ix_get (by simpa using h1)]
abbrev haE (M : D) (k p : Nat) (x3 x4 x5 : Option D) : Vl.Env := [some M, some (.int (k : Nat)), some (.int (p : Nat)), x3, x4, x5, none, none]
theorem it_tns {f : M D} {ρ ρ1 : Vl.Env} (l : List Nat) (h : f ρ = some (tns l, ρ1)) : iSeq f ρ = some (nsD l, ρ1) := seq_it h (if_pos (no_ns l))
section
variable {A : Mx} {m n k p : Nat}
theorem haP_ok {l1 l2 : List Nat} {x5 : Option D} (h1 : l1.length = k) (h2 : l2.length = k) (b1 : ∀ x ∈ l1, x < m) (b2 : ∀ x ∈ l2, x < n) (hk : k ≤ 4) :
    haP (haE (.tup (tD m n A)) k p (some (tns l1)) (some (tns l2)) x5) = some (.nx (haE (.tup (tD m n A)) k p (some (tns l1)) (some (tns l2)) (some (.lst true (lD k k (pick A l1 l2)))))) := by
  have inn : ∀ i, i < m → fComp [6] (iSeq (fVar 4)) (gNm 6) fYes (chk (fOp [0] [] gIxA (fOp [0] [] gIxA (fVar 0) (fVar 7)) (fVar 6))) ((haE (.tup (tD m n A)) k p (some (tns l1)) (some (tns l2)) x5).set 7 (some (.int (i : Nat)))) = some (.lst true (rwN k fun j => A i (ix l2 j)), (haE (.tup (tD m n A)) k p (some (tns l1)) (some (tns l2)) x5).set 7 (some (.int (i : Nat)))) := fun i hi => by
    have c := comp_ns (i := 6) (fi := iSeq (fVar 4)) (ft := fYes) (fe := (chk (fOp [0] [] gIxA (fOp [0] [] gIxA (fVar 0) (fVar 7)) (fVar 6)))) (ρ0 := (haE (.tup (tD m n A)) k p (some (tns l1)) (some (tns l2)) x5).set 7 (some (.int (i : Nat)))) (fun _ => true) (fun j => .int (A i j)) (it_tns l2 rfl) rfl (fun j _ => rfl) (fun j hj _ => chk_ok (ixt_ok (ixt_ok rfl rfl (safe_r1 _ _) (tD_at i rfl hi)) rfl rfl (rwN_at j rfl (b2 j hj))) rfl) (by omega)
    rw [c, show l2.filter (fun _ => true) = l2 from List.filter_eq_self.mpr fun _ _ => rfl, map_ixs h2]
    rfl
  have c := comp_ns (i := 7) (fi := iSeq (fVar 3)) (ft := fYes) (fe := (fFz (fComp [6] (iSeq (fVar 4)) (gNm 6) fYes (chk (fOp [0] [] gIxA (fOp [0] [] gIxA (fVar 0) (fVar 7)) (fVar 6)))))) (ρ0 := haE (.tup (tD m n A)) k p (some (tns l1)) (some (tns l2)) x5) (fun _ => true) (fun i => .lst false (rwN k fun j => A i (ix l2 j))) (it_tns l1 rfl) rfl (fun j _ => rfl) (fun i hi _ => by
    rw [← fz_row]
    exact fz_ok (inn i (b1 i hi))) (by omega)
  rw [show l1.filter (fun _ => true) = l1 from List.filter_eq_self.mpr fun _ _ => rfl, map_ixs h1] at c
  exact set_to c rfl
theorem haT_ok {l1 l2 : List Nat} (h1 : l1.length = k) (h2 : l2.length = k) (b1 : ∀ x ∈ l1, x < m) (b2 : ∀ x ∈ l2, x < n) (hk : k ≤ 4) (hp : 0 < p) (hA : ∀ i j, i < m → j < n → (A i j).natAbs < 2 ^ 63) :
    fB (fOp [] [] gNe (fOp [] [] gMod (fCl gInt (fCons [] [] (fCall F__law_det (fCons [5] [] (fVar 5) fNil)) fNil)) (fVar 2)) (fC (.int 0))) (haE (.tup (tD m n A)) k p (some (tns l1)) (some (tns l2)) (some (.lst true (lD k k (pick A l1 l2))))) = some (!decide (dt k (pick A l1 l2) % (p : Nat) = 0), haE (.tup (tD m n A)) k p (some (tns l1)) (some (tns l2)) (some (.lst true (lD k k (pick A l1 l2))))) := by
  have sm : Sml k (pick A l1 l2) := fun i j hi hj => hA _ _ (b1 _ (ix_mem (by omega))) (b2 _ (ix_mem (by omega)))
  have cal : fCall F__law_det (fCons [5] [] (fVar 5) fNil) (haE (.tup (tD m n A)) k p (some (tns l1)) (some (tns l2)) (some (.lst true (lD k k (pick A l1 l2))))) = some (.int (dt k (pick A l1 l2)), haE (.tup (tD m n A)) k p (some (tns l1)) (some (tns l2)) (some (.lst true (lD k k (pick A l1 l2))))) :=
    call_f (ds := [.lst true (lD k k (pick A l1 l2))]) (es := [mat k (pick A l1 l2)]) (cons_ok rfl rfl (safe_r1 _ _)) (by
      show [D.lst false (D.frzL (lD k k (pick A l1 l2)))] = _
      rw [frz_lD]
      rfl) (det_ok hk sm) rfl
  have g : gMod (.int (dt k (pick A l1 l2))) (.int (p : Nat)) = some (.int (dt k (pick A l1 l2) % (p : Nat))) := by
    rw [gMod_i (by omega), fmod_p (by omega)]
  exact b_ok (op_ok (op_ok (cl_ok (cons_ok cal rfl rfl) (gInt_i _)) rfl rfl g) rfl rfl (gNe_i _ _))
theorem has_ok (hm : 1 ≤ m ∧ m ≤ 4) (hn : 1 ≤ n ∧ n ≤ 4) (hk : 1 ≤ k ∧ k ≤ 4) (hp : 0 < p) (hA : ∀ i j, i < m → j < n → (A i j).natAbs < 2 ^ 63) :
    ∃ b : Bool, F__law_has [.tup (tD m n A), .int (k : Nat), .int (p : Nat)] = some (.bl b, []) ∧ (b = true ↔ ¬ Van (p : Nat) k m n A) := by
  let I : Vl.Env → Prop := fun ρ => ∃ x3 x4 x5, ρ = haE (.tup (tD m n A)) k p x3 x4 x5
  have it1 : haI1 (haE (.tup (tD m n A)) k p none none none) = some ((chs m k).map tns, haE (.tup (tD m n A)) k p none none none) := by
    refine seq_it (d := .lst true ((chs m k).map tns)) (call_ok (cons_ok (cl_ok (cons_ok rfl rfl (safe_r1 _ _)) (d := .int (m : Nat)) ?_) (cons_ok rfl rfl rfl) rfl) rfl rfl (ch_ok hm hk)) ?_
    · show some (D.int ((tD m n A).length : Nat)) = _
      rw [tD_len]
    · have : D.noOwnL ((chs m k).map tns) = true := by
        generalize chs m k = L
        induction L with
        | nil => rfl
        | cons x r ih =>
          show (D.noOwnL (nsD x) && D.noOwnL (r.map tns)) = true
          rw [no_ns, ih]
          rfl
      exact if_pos this
  have it2 : ∀ x3 x4 x5, haI2 (haE (.tup (tD m n A)) k p x3 x4 x5) = some ((chs n k).map tns, haE (.tup (tD m n A)) k p x3 x4 x5) := fun x3 x4 x5 => by
    refine seq_it (d := .lst true ((chs n k).map tns)) (call_ok (cons_ok (cl_ok (cons_ok (ixt_ok rfl rfl (safe_r1 _ _) (tD_at 0 rfl (by omega))) rfl rfl) (d := .int (n : Nat)) ?_) (cons_ok rfl rfl rfl) rfl) rfl rfl (ch_ok hn hk)) ?_
    · show some (D.int ((rwN n (A 0)).length : Nat)) = _
      rw [rwN_len]
    · have : D.noOwnL ((chs n k).map tns) = true := by
        generalize chs n k = L
        induction L with
        | nil => rfl
        | cons x r ih =>
          show (D.noOwnL (nsD x) && D.noOwnL (r.map tns)) = true
          rw [no_ns, ih]
          rfl
      exact if_pos this
  have bad : ∀ l1 l2 : List Nat, l1.length = k → l2.length = k → (∀ x ∈ l1, x < m) → (∀ x ∈ l2, x < n) → ¬ (p : Int) ∣ dt k (pick A l1 l2) → ¬ Van (p : Nat) k m n A := fun l1 l2 h1 h2 b1 b2 nd V =>
    nd (V (ix l1) (ix l2) (fun i hi => b1 _ (ix_mem (by omega))) fun j hj => b2 _ (ix_mem (by omega)))
  obtain ⟨ρ', r⟩ := for_find (i := 3) (body := sFor haI2 (gNm 4) (sSeq haP haT)) tns I (fun l1 => ∃ l2 ∈ chs n k, ¬ (p : Int) ∣ dt k (pick A l1 l2)) (chs m k) (haE (.tup (tD m n A)) k p none none none) ⟨_, _, _, rfl⟩ fun l1 hl1 ρ hI => by
    obtain ⟨x3, x4, x5, rfl⟩ := hI
    obtain ⟨a1, a2⟩ := ch_in hm hk hl1
    obtain ⟨ρ2, r⟩ := for_find (i := 4) (body := sSeq haP haT) tns (fun ρ => ∃ x4 x5, ρ = haE (.tup (tD m n A)) k p (some (tns l1)) x4 x5) (fun l2 => ¬ (p : Int) ∣ dt k (pick A l1 l2)) (chs n k) (haE (.tup (tD m n A)) k p (some (tns l1)) x4 x5) ⟨_, _, rfl⟩ fun l2 hl2 ρ hI => by
      obtain ⟨x4, x5, rfl⟩ := hI
      obtain ⟨c1, c2⟩ := ch_in hn hk hl2
      have s1 := haP_ok (A := A) (p := p) (x5 := x5) a1 c1 a2 c2 hk.2
      have s2 := haT_ok (A := A) a1 c1 a2 c2 hk.2 hp hA
      by_cases z : dt k (pick A l1 l2) % (p : Nat) = 0
      · rw [decide_eq_true z] at s2
        exact ⟨_, .inr ⟨fun nd => nd (Int.dvd_of_emod_eq_zero z), (seq_nx s1).trans ((if_f s2).trans rfl), _, _, rfl⟩⟩
      · rw [decide_eq_false z] at s2
        exact ⟨_, .inl ⟨fun d => z (Int.emod_eq_zero_of_dvd d), (seq_nx s1).trans ((if_t s2).trans rfl)⟩⟩
    have e : sFor haI2 (gNm 4) (sSeq haP haT) ((haE (.tup (tD m n A)) k p x3 x4 x5).set 3 (some (tns l1))) = forL (gNm 4) (sSeq haP haT) ((chs n k).map tns) (haE (.tup (tD m n A)) k p (some (tns l1)) x4 x5) := for_it (it2 _ _ _)
    rcases r with ⟨h, q⟩ | ⟨h, q, x4', x5', rfl⟩
    · exact ⟨ρ2, .inl ⟨h, e.trans q⟩⟩
    · exact ⟨_, .inr ⟨fun ⟨l2, m2, nd⟩ => h l2 m2 nd, e.trans q, _, _, _, rfl⟩⟩
  rw [has_split]
  rcases r with ⟨⟨l1, m1, l2, m2, nd⟩, q⟩ | ⟨h, q, _⟩
  · obtain ⟨a1, a2⟩ := ch_in hm hk m1
    obtain ⟨c1, c2⟩ := ch_in hn hk m2
    exact ⟨true, run_at (ρ0 := haE (.tup (tD m n A)) k p none none none) rfl rfl (seq_rt ((for_it it1).trans q)), fun _ => bad l1 l2 a1 c1 a2 c2 nd, fun _ => rfl⟩
  · refine ⟨false, run_at (ρ0 := haE (.tup (tD m n A)) k p none none none) (ρ := ρ') rfl rfl ((seq_nx ((for_it it1).trans q)).trans rfl), ⟨fun e => Bool.noConfusion e, fun V => (V ?_).elim⟩⟩
    refine van_asc hk.2 fun I J aI aJ hI hJ => ?_
    have z := h _ (ch_mem hm hk aI hI)
    refine Classical.byContradiction fun nd => z ⟨_, ch_mem hn hk aJ hJ, ?_⟩
    rw [show dt k (pick A ((List.range k).map I) ((List.range k).map J)) = dt k fun i j => A (I i) (J j) from dt_congr k _ _ fun i j hi hj => by
      unfold pick
      rw [ix_map (by rw [List.length_range]; omega), ix_map (by rw [List.length_range]; omega), ix_range hi, ix_range hj]]
    exact nd
end
end G07

namespace G07
open PySem PySem.Spec PyProof.Rows L2 Vl Pm Dt
/-! ### what rows make: the plain law -/
def nw (p n : Nat) (v : List Int) (x : Nat → Int) (f : Nat) : List Int := (List.range n).map fun j => (vec v j + (f : Nat) * x j) % (p : Nat)
def fr_ (p n : Nat) (L : List (List Int)) (x : Nat → Int) : List (List Int) := L.flatMap fun v => (List.range p).map (nw p n v x)
def sS (p n : Nat) (A : Mx) : Nat → List (List Int)
  | 0 => [(List.range n).map fun _ => 0]
  | c + 1 => srtU (fr_ p n (sS p n A c) (A c))
theorem nw_at {p n : Nat} (v : List Int) (x : Nat → Int) (f : Nat) {j : Nat} (h : j < n) : vec (nw p n v x f) j = (vec v j + (f : Nat) * x j) % (p : Nat) := by
  unfold vec nw
  rw [List.getD_eq_getElem?_getD, List.getElem?_map, List.getElem?_range h]
  rfl
theorem vec_get {v : List Int} {j : Nat} (h : j < v.length) : vec v j = v[j] := by
  unfold vec
  rw [List.getD_eq_getElem?_getD, List.getElem?_eq_getElem h]
  rfl
theorem insU_le (x : List Int) : ∀ l, (insU x l).length ≤ l.length + 1
  | [] => by simp [insU]
  | y :: r => by
    unfold insU
    split
    · simp
    · split
      · simp
      · have := insU_le x r
        simp only [List.length_cons]
        omega
theorem srtU_le : ∀ l, (srtU l).length ≤ l.length
  | [] => by simp [srtU]
  | x :: r => by
    have h1 := insU_le x (srtU r)
    have h2 := srtU_le r
    show (insU x (srtU r)).length ≤ _
    rw [List.length_cons]
    omega
theorem fr_len (p n : Nat) (x : Nat → Int) : ∀ L : List (List Int), (fr_ p n L x).length = L.length * p
  | [] => by simp [fr_]
  | v :: L => by
    have := fr_len p n x L
    unfold fr_ at this ⊢
    rw [List.flatMap_cons, List.length_append, this, List.length_map, List.length_range, List.length_cons]
    grind
theorem sS_len (p n : Nat) (A : Mx) : ∀ c, (sS p n A c).length ≤ p ^ c
  | 0 => by simp [sS]
  | c + 1 => by
    have h1 := srtU_le (fr_ p n (sS p n A c) (A c))
    rw [fr_len] at h1
    have h2 := Nat.mul_le_mul_right p (sS_len p n A c)
    rw [Nat.pow_succ]
    exact Nat.le_trans h1 h2
theorem sS_nd (p n : Nat) (A : Mx) : ∀ c, (sS p n A c).Nodup
  | 0 => by simp [sS]
  | c + 1 => by
    refine List.nodup_iff_pairwise_ne.mpr ((up_srtU _).imp fun {a b} h e => ?_)
    rw [e] at h
    exact List.lt_irrefl _ h
theorem Sp.mono {p : Int} {c n : Nat} {A : Mx} {v : Nat → Int} (s : Sp p c n A v) : Sp p (c + 1) n A v := by
  induction s with
  | zero v hv => exact .zero v hv
  | add v w i a _ hi e ih => exact .add v w i a ih (by omega) e
theorem Sp.last {p : Int} {c n : Nat} {A : Mx} {w : Nat → Int} (s : Sp p (c + 1) n A w) : ∃ (f : Int) (u : Nat → Int), Sp p c n A u ∧ ∀ j, j < n → p ∣ w j - (u j + f * A c j) := by
  induction s with
  | zero v hv => exact ⟨0, v, .zero v hv, fun j _ => ⟨0, by grind⟩⟩
  | add v w i a _ hi e ih =>
    obtain ⟨f, u, su, h⟩ := ih
    by_cases ic : i = c
    · subst ic
      exact ⟨f + a, u, su, fun j hj => by
        obtain ⟨x, hx⟩ := e j hj
        obtain ⟨y, hy⟩ := h j hj
        exact ⟨x + y, by grind⟩⟩
    · exact ⟨f, fun j => u j + a * A i j, .add u _ i a su (by omega) fun j _ => by rw [Int.sub_self]; exact Int.dvd_zero p, fun j hj => by
        obtain ⟨x, hx⟩ := e j hj
        obtain ⟨y, hy⟩ := h j hj
        exact ⟨x + y, by grind⟩⟩
theorem eq_of_dvd {p a b : Int} (ha : 0 ≤ a ∧ a < p) (hb : 0 ≤ b ∧ b < p) (h : p ∣ a - b) : a = b := by
  obtain ⟨k, hk⟩ := h
  have h1 : k < 1 := Int.lt_of_mul_lt_mul_left (a := p) (by omega) (by omega)
  have h2 : -1 < k := Int.lt_of_mul_lt_mul_left (a := p) (by omega) (by omega)
  have : k = 0 := by omega
  subst this
  omega
theorem sS_mem {p n : Nat} (hp : 0 < p) (A : Mx) : ∀ (c : Nat) (v : List Int), v ∈ sS p n A c ↔ v.length = n ∧ (∀ x ∈ v, 0 ≤ x ∧ x < (p : Int)) ∧ Sp (p : Nat) c n A (vec v)
  | 0, v => by
    show v ∈ [(List.range n).map fun _ => 0] ↔ _
    rw [List.mem_singleton]
    constructor
    · rintro rfl
      refine ⟨by simp, fun x hx => ?_, .zero _ fun j hj => ?_⟩
      · obtain ⟨_, _, rfl⟩ := List.mem_map.mp hx
        omega
      · rw [vec_get (by simpa using hj), List.getElem_map]
        exact Int.dvd_zero _
    · rintro ⟨h1, h2, s⟩
      cases s with
      | zero _ hv =>
        refine List.ext_getElem (by simpa using h1) fun j hj1 hj2 => ?_
        have a := hv j (by omega)
        rw [vec_get hj1] at a
        rw [List.getElem_map]
        exact eq_of_dvd (h2 _ (List.getElem_mem hj1)) (by omega) (by rw [Int.sub_zero]; exact a)
      | add _ _ _ _ _ hi _ => omega
  | c + 1, v => by
    have p0 : (0 : Int) < (p : Nat) := by omega
    show v ∈ srtU (fr_ p n (sS p n A c) (A c)) ↔ _
    rw [mem_srtU]
    unfold fr_
    rw [List.mem_flatMap]
    constructor
    · rintro ⟨u, hu, hv⟩
      obtain ⟨f, hf, rfl⟩ := List.mem_map.mp hv
      obtain ⟨_, _, su⟩ := (sS_mem hp A c u).mp hu
      refine ⟨by simp [nw], fun x hx => ?_, .add _ _ c (f : Nat) (Sp.mono su) (by omega) fun j hj => ?_⟩
      · obtain ⟨j, _, rfl⟩ := List.mem_map.mp hx
        exact ⟨Int.emod_nonneg _ (by omega), Int.emod_lt_of_pos _ p0⟩
      · rw [nw_at _ _ _ hj]
        exact dvd_emod _ _
    · rintro ⟨h1, h2, s⟩
      obtain ⟨f, u, su, h⟩ := Sp.last s
      have fn : 0 ≤ f % (p : Nat) ∧ f % (p : Nat) < (p : Nat) := ⟨Int.emod_nonneg _ (by omega), Int.emod_lt_of_pos _ p0⟩
      have um : (List.range n).map (fun j => u j % (p : Nat)) ∈ sS p n A c := by
        refine (sS_mem hp A c _).mpr ⟨by simp, fun x hx => ?_, Sp.congr su fun j hj => ?_⟩
        · obtain ⟨j, _, rfl⟩ := List.mem_map.mp hx
          exact ⟨Int.emod_nonneg _ (by omega), Int.emod_lt_of_pos _ p0⟩
        · rw [vec_get (by simpa using hj), List.getElem_map, List.getElem_range]
          exact dvd_emod _ _
      refine ⟨_, um, List.mem_map.mpr ⟨(f % (p : Nat)).toNat, List.mem_range.mpr (by omega), ?_⟩⟩
      refine List.ext_getElem (by simp [nw, h1]) fun j hj1 hj2 => ?_
      have hj : j < n := by omega
      have a := nw_at (p := p) ((List.range n).map fun j => u j % (p : Nat)) (A c) (f % (p : Nat)).toNat hj
      rw [vec_get hj1, vec_get (by simpa using hj), List.getElem_map, List.getElem_range] at a
      rw [a]
      refine eq_of_dvd ⟨Int.emod_nonneg _ (by omega), Int.emod_lt_of_pos _ p0⟩ (h2 _ (List.getElem_mem hj2)) ?_
      have h := h j hj
      rw [vec_get hj2] at h
      obtain ⟨x1, e1⟩ := h
      obtain ⟨x2, e2⟩ := dvd_emod (u j % (p : Nat) + ((f % (p : Nat)).toNat : Nat) * A c j) (p : Nat)
      obtain ⟨x3, e3⟩ := dvd_emod (u j) (p : Nat)
      obtain ⟨x4, e4⟩ := dvd_emod f (p : Nat)
      rw [Int.toNat_of_nonneg fn.1] at e2 ⊢
      exact ⟨x2 + x3 + x4 * A c j - x1, by grind⟩
theorem sS_pow {p n m r : Nat} {A R : Mx} {q : Nat → Nat} (hp : 0 < p) (G : Gs (p : Nat) m n A n r R q) : (sS p n A m).length = p ^ r :=
  End.count G.fin rfl hp (sS_nd p n A m) fun v => by rw [sS_mem hp, G.spn]
end G07

namespace G07
open PySem PySem.Spec PyProof.Rows L2 Vl Pm Dt
def rwD (L : List (List Int)) : List D := L.map fun r => .tup (r.map .int)
theorem no_rw (L : List (List Int)) : D.noOwnL (rwD L) = true := by
  induction L with
  | nil => rfl
  | cons x r ih =>
    show (D.noOwnL (x.map D.int) && D.noOwnL (rwD r)) = true
    rw [noOwnL_ints, ih]
    rfl
theorem rows_rw : ∀ L : List (List Int), rowsI (rwD L) = some L
  | [] => rfl
  | x :: r => by
    have e : intsD (x.map D.int) = some x := by
      induction x with
      | nil => rfl
      | cons y s ih =>
        show (intsD (s.map D.int)).map (y :: ·) = _
        rw [ih]
        rfl
    show (intsD (x.map D.int)).bind (fun ns => (rowsI (rwD r)).map (ns :: ·)) = _
    rw [e, rows_rw r]
    rfl
theorem gSS_rw {L : List (List Int)} (h : L.length ≤ 1000) (hn : ∀ r ∈ L, r ≠ []) : gSS [.lst true (rwD L)] = some (.lst true (rwD (srtU L))) := by
  show (rowsI (rwD L)).bind _ = _
  rw [rows_rw, Option.bind_some, if_pos]
  · rfl
  · rw [Bool.and_eq_true, decide_eq_true_eq, List.all_eq_true]
    refine ⟨h, fun r hr => ?_⟩
    have := hn r hr
    cases r with
    | nil => exact absurd rfl this
    | cons _ _ => rfl
/-! ### _law_span -/
abbrev spE : M D := (fOp [] [] gMod (fCl gInt (fCons [] [] (fOp [6] [] gAdd (fOp [6] [] gIxA (fVar 6) (fVar 8)) (fOp [7] [] gMul (fVar 7) (fOp [4] [] gIxA (fVar 4) (fVar 8)))) fNil)) (fVar 1))
abbrev spT : M D := (fCl gTuple (fCons [] [] (fComp [8] (iRg1 (fCons [] [] (fCl gLen (fCons [4] [] (fVar 4) fNil)) fNil)) (gNm 8) fYes spE) fNil))
abbrev spA : MS := (sDrop (fMut 5 "list" gAppend (fCons [] [] spT fNil)))
abbrev spF : MS := (sFor (iRg1 (fCons [1] [] (fVar 1) fNil)) (gNm 7) spA)
abbrev spB : MS := (sSeq (sSet 5 (fLst fNil)) (sSeq (sFor (iSeq (fVar 2)) (gNm 6) spF) (sSet 2 (fCl gSS (fCons [5] [] (fVar 5) fNil)))))
abbrev sp0 : MS := (sSet 2 (fLst (fCons [] [] (fCl gTuple (fCons [] [] (fComp [3] (iSeq (fOp [0] [] gIxA (fVar 0) (fC (.int 0)))) (gNm 3) fYes (fC (.int 0))) fNil)) fNil)))
theorem span_split : F__law_span = runF 2 0 9 (sSeq sp0 (sSeq (sFor (iSeq (fVar 0)) (gNm 4) spB) (sRet (fCl gLen (fCons [2] [] (fVar 2) fNil))))) := rfl
abbrev pE (M : D) (p : Nat) (L : List (List Int)) (x4 x5 x6 x7 : Option D) : Vl.Env := [some M, some (.int (p : Nat)), some (.lst true (rwD L)), none, x4, x5, x6, x7, none]
section
variable {M : D} {m n p : Nat} {L : List (List Int)}
abbrev rowT (n : Nat) (x : Nat → Int) : D := .tup (rwN n x)
theorem spT_ok {x : Nat → Int} {v : List Int} {x5 : Option D} {f : Nat} (hv : v.length = n) (hp : 0 < p) (hp2 : p ≤ 5) (hn : n ≤ 1000) (hf : f < p) :
    spT (pE M p L (some (rowT n x)) x5 (some (.tup (v.map .int))) (some (.int (f : Nat)))) = some (.tup ((nw p n v x f).map .int), pE M p L (some (rowT n x)) x5 (some (.tup (v.map .int))) (some (.int (f : Nat)))) := by
  have it : iRg1 (fCons [] [] (fCl gLen (fCons [4] [] (fVar 4) fNil)) fNil) (pE M p L (some (rowT n x)) x5 (some (.tup (v.map .int))) (some (.int (f : Nat)))) = some (nsD (List.range n), pE M p L (some (rowT n x)) x5 (some (.tup (v.map .int))) (some (.int (f : Nat)))) := by
    rw [iRg1_ok (j := (n : Nat)) (ρ1 := pE M p L (some (rowT n x)) x5 (some (.tup (v.map .int))) (some (.int (f : Nat)))) (cons_ok (cl_ok (cons_ok rfl rfl (safe_r1 _ _)) (by
      show some (D.int ((rwN n x).length : Nat)) = _
      rw [rwN_len])) rfl rfl) (okR_n (by omega) (by omega)), Int.toNat_natCast, rg0_ns]
  have c := comp_ns (i := 8) (ft := fYes) (fe := spE) (ρ0 := pE M p L (some (rowT n x)) x5 (some (.tup (v.map .int))) (some (.int (f : Nat)))) (fun _ => true) (fun j => .int ((vec v j + (f : Nat) * x j) % (p : Nat))) it rfl (fun j _ => rfl) (fun j hj _ => by
    have hj := List.mem_range.mp hj
    have g : gMod (.int (vec v j + (f : Nat) * x j)) (.int (p : Nat)) = some (.int ((vec v j + (f : Nat) * x j) % (p : Nat))) := by
      rw [gMod_i (by omega), fmod_p (by omega)]
    have a : L2.atI (v.map D.int) (j : Nat) = some (.int (vec v j)) := atI_k (by rw [List.getElem?_map, List.getElem?_eq_getElem (by omega), vec_get (by omega)]; rfl)
    exact op_ok (cl_ok (cons_ok (op_ok (ixt_ok rfl rfl (safe_r1 _ _) a) (op_ok rfl (ixt_ok rfl rfl (safe_r1 _ _) (rwN_at j rfl hj)) rfl (gMul_i (cMul_l (by omega)))) rfl (gAdd_i _ _)) rfl rfl) (gInt_i _)) rfl rfl g) (by rw [List.length_range]; omega)
  rw [show (List.range n).filter (fun _ => true) = List.range n from List.filter_eq_self.mpr fun _ _ => rfl] at c
  have e : (List.range n).map (fun j => D.int ((vec v j + (f : Nat) * x j) % (p : Nat))) = (nw p n v x f).map D.int := by
    unfold nw
    rw [List.map_map]
    rfl
  rw [e] at c
  exact cl_ok (cons_ok c rfl rfl) (gTuple_z _ _)
theorem spF_ok {x : Nat → Int} {v : List Int} {acc : List (List Int)} {x7 : Option D} (hv : v.length = n) (hp : 0 < p) (hp2 : p ≤ 5) (hn : n ≤ 1000) (ha : acc.length ≤ 5000) :
    ∃ y, spF (pE M p L (some (rowT n x)) (some (.lst true (rwD acc))) (some (.tup (v.map .int))) x7) = some (.nx (pE M p L (some (rowT n x)) (some (.lst true (rwD (acc ++ (List.range p).map (nw p n v x))))) (some (.tup (v.map .int))) y)) := by
  have it : iRg1 (fCons [1] [] (fVar 1) fNil) (pE M p L (some (rowT n x)) (some (.lst true (rwD acc))) (some (.tup (v.map .int))) x7) = some (nsD (List.range p), pE M p L (some (rowT n x)) (some (.lst true (rwD acc))) (some (.tup (v.map .int))) x7) := by
    rw [iRg1_ok (j := (p : Nat)) (ρ1 := pE M p L (some (rowT n x)) (some (.lst true (rwD acc))) (some (.tup (v.map .int))) x7) (cons_ok rfl rfl rfl) (okR_n (by omega) (by omega)), Int.toNat_natCast, rg0_ns]
  obtain ⟨y, hy⟩ := sfor_rg (i := 7) (n := p) (body := spA) (fun c => pE M p L (some (rowT n x)) (some (.lst true (rwD (acc ++ (List.range c).map (nw p n v x))))) (some (.tup (v.map .int))) none) x7 it (by
    rw [List.range_zero, List.map_nil, List.append_nil]
    rfl) fun f hf => by
    refine ⟨some (.int (f : Nat)), app_to (l := rwD (acc ++ (List.range f).map (nw p n v x))) (e := .tup ((nw p n v x f).map .int)) rfl (cons_ok (spT_ok hv hp hp2 hn hf) rfl rfl) rfl ?_ ?_⟩
    · refine decide_eq_true ?_
      unfold rwD
      rw [List.length_map, List.length_append, List.length_map, List.length_range]
      omega
    · rw [List.range_succ, List.map_append, ← List.append_assoc]
      show pE M p L _ (some (.lst true (rwD _ ++ [_]))) _ _ = pE M p L _ (some (.lst true (rwD (_ ++ [_])))) _ _
      unfold rwD
      rw [List.map_append (l₁ := acc ++ _)]
      rfl
  exact ⟨y, hy⟩
theorem spB_ok {x : Nat → Int} {x5 x6 x7 : Option D} (hL : ∀ v ∈ L, v.length = n) (hp : 0 < p) (hp2 : p ≤ 5) (h0 : 0 < n) (hn : n ≤ 1000) (hl : L.length * p ≤ 1000) :
    ∃ y5 y6 y7, spB (pE M p L (some (rowT n x)) x5 x6 x7) = some (.nx (pE M p (srtU (fr_ p n L x)) (some (rowT n x)) y5 y6 y7)) := by
  have s1 : sSet 5 (fLst fNil) (pE M p L (some (rowT n x)) x5 x6 x7) = some (.nx (pE M p L (some (rowT n x)) (some (.lst true (rwD []))) x6 x7)) := rfl
  have it : iSeq (fVar 2) (pE M p L (some (rowT n x)) (some (.lst true (rwD []))) x6 x7) = some (rwD L, pE M p L (some (rowT n x)) (some (.lst true (rwD []))) x6 x7) := seq_it rfl (if_pos (no_rw L))
  obtain ⟨ρ', hf, y6, y7, rfl⟩ := for_inv (i := 6) (body := spF) (fun c ρ => ∃ y6 y7, ρ = pE M p L (some (rowT n x)) (some (.lst true (rwD (fr_ p n (L.take c) x)))) y6 y7) (rwD L) 0 (pE M p L (some (rowT n x)) (some (.lst true (rwD []))) x6 x7) ⟨x6, x7, rfl⟩ fun c d ρ hd hI => by
    rw [Nat.zero_add] at hI ⊢
    obtain ⟨y6, y7, rfl⟩ := hI
    unfold rwD at hd
    rw [List.getElem?_map] at hd
    obtain ⟨v, h1, rfl⟩ := Option.map_eq_some_iff.mp hd
    have hc := (List.getElem?_eq_some_iff.mp h1).1
    have ha : (fr_ p n (L.take c) x).length ≤ 5000 := by
      rw [fr_len, List.length_take, Nat.min_eq_left (by omega)]
      have := Nat.mul_le_mul_right p (show c ≤ L.length by omega)
      omega
    obtain ⟨y, hy⟩ := spF_ok (M := M) (L := L) (x := x) (x7 := y7) (hL v (List.mem_of_getElem? h1)) hp hp2 hn ha
    refine ⟨_, hy, some (.tup (v.map .int)), y, ?_⟩
    have e : fr_ p n (L.take (c + 1)) x = fr_ p n (L.take c) x ++ (List.range p).map (nw p n v x) := by
      unfold fr_
      rw [List.take_succ, h1, List.flatMap_append]
      simp
    rw [e]
  rw [Nat.zero_add, List.take_of_length_le (by unfold rwD; rw [List.length_map]; exact Nat.le_refl _)] at hf
  have hne : ∀ r ∈ fr_ p n L x, r ≠ [] := fun r hr e => by
    unfold fr_ at hr
    obtain ⟨v, _, h⟩ := List.mem_flatMap.mp hr
    obtain ⟨f, _, rfl⟩ := List.mem_map.mp h
    have := congrArg List.length e
    simp [nw] at this
    omega
  have g := gSS_rw (L := fr_ p n L x) (by rw [fr_len]; exact hl) hne
  exact ⟨some (.lst true (rwD (fr_ p n L x))), y6, y7, (seq_nx s1).trans ((seq_nx ((for_it it).trans hf)).trans (set_to (cl_ok (cons_ok rfl rfl (safe_r1 _ _)) g) rfl))⟩
theorem span_ok {A : Mx} (hp : 0 < p) (hp2 : p ≤ 5) (hm1 : 1 ≤ m) (hm : m ≤ 4) (h0 : 0 < n) (hn : n ≤ 1000) : F__law_span [.tup (tD m n A), .int (p : Nat)] = some (.int ((sS p n A m).length : Nat), []) := by
  have c0 := comp_row (i := 3) (n := n) (fi := iSeq (fOp [0] [] gIxA (fVar 0) (fC (.int 0)))) (fe := fC (.int 0)) (ρ0 := [some (.tup (tD m n A)), some (.int (p : Nat)), none, none, none, none, none, none, none]) (ρ1 := [some (.tup (tD m n A)), some (.int (p : Nat)), none, none, none, none, none, none, none]) (x := A 0) (fun _ => 0) (seq_it (ixt_ok rfl rfl (safe_r1 _ _) (tD_at 0 rfl (by omega))) (if_pos (no_rwN _ _))) rfl (fun _ _ => rfl) hn
  have s0 : sp0 [some (.tup (tD m n A)), some (.int (p : Nat)), none, none, none, none, none, none, none] = some (.nx (pE (.tup (tD m n A)) p (sS p n A 0) none none none none)) := by
    rw [rwN_int] at c0
    exact set_to (lst_ok (cons_ok (cl_ok (cons_ok c0 rfl rfl) (gTuple_z _ _)) rfl rfl) rfl) rfl
  obtain ⟨ρ', hf, x4, x5, x6, x7, rfl⟩ := for_inv (i := 4) (body := spB) (fun c ρ => ∃ x4 x5 x6 x7, ρ = pE (.tup (tD m n A)) p (sS p n A c) x4 x5 x6 x7) (tD m n A) 0 (pE (.tup (tD m n A)) p (sS p n A 0) none none none none) ⟨_, _, _, _, rfl⟩ fun c d ρ hd hI => by
    rw [Nat.zero_add] at hI ⊢
    obtain ⟨x4, x5, x6, x7, rfl⟩ := hI
    unfold tD at hd
    rw [List.getElem?_map] at hd
    obtain ⟨i, h1, rfl⟩ := Option.map_eq_some_iff.mp hd
    obtain ⟨hc, e⟩ := List.getElem?_eq_some_iff.mp h1
    rw [List.getElem_range] at e
    subst e
    rw [List.length_range] at hc
    have le := sS_len p n A c
    have l2 : p ^ c * p ≤ 1000 := by
      rw [← Nat.pow_succ]
      refine Nat.le_trans (Nat.pow_le_pow_left hp2 _) (Nat.le_trans (Nat.pow_le_pow_right (by decide) (show c + 1 ≤ 4 by omega)) (by decide))
    have l3 := Nat.mul_le_mul_right p le
    obtain ⟨y5, y6, y7, hb⟩ := spB_ok (M := .tup (tD m n A)) (L := sS p n A c) (n := n) (x := A c) (x5 := x5) (x6 := x6) (x7 := x7) (fun v hv => ((sS_mem hp A c v).mp hv).1) hp hp2 h0 hn (by omega)
    exact ⟨_, hb, _, _, _, _, rfl⟩
  rw [Nat.zero_add, tD_len] at hf
  rw [span_split]
  have it : iSeq (fVar 0) (pE (.tup (tD m n A)) p (sS p n A 0) none none none none) = some (tD m n A, pE (.tup (tD m n A)) p (sS p n A 0) none none none none) := seq_it rfl (if_pos (no_tD _ _ _))
  refine run_at (ρ := pE (.tup (tD m n A)) p (sS p n A m) x4 x5 x6 x7) (ρ0 := [some (.tup (tD m n A)), some (.int (p : Nat)), none, none, none, none, none, none, none]) rfl rfl ((seq_nx s0).trans ((seq_nx ((for_it it).trans hf)).trans (ret_ok (cl_ok (cons_ok rfl rfl (safe_r1 _ _)) ?_))))
  rw [gLen_l]
  unfold rwD
  rw [List.length_map]
end
end G07

namespace G07
open PySem PySem.Spec PyProof.Rows L2 Vl
abbrev W1 : MS := (sSet 1 (fCall F__law_state (fCons [0] [] (fVar 0) fNil)))
abbrev W2 : MS := (sSet 2 (chk (fOp [] [1] gIxA (fLst (fCons [] [] (fC (.int 2)) (fCons [] [] (fC (.int 3)) (fCons [] [] (fC (.int 5)) (fCons [] [] (fC (.int 7)) (fCons [] [] (fC (.int 11)) (fCons [] [] (fC (.int 13)) fNil))))))) (fCallM F__law_draw 1 (fCons [] [] (fC (.int 6)) fNil)))))
abbrev W3 : MS := (sSet 3 (fOp [] [1] gAdd (fC (.int 1)) (fCallM F__law_draw 1 (fCons [] [] (fC (.int 5)) fNil))))
abbrev W4 : MS := (sSet 4 (fOp [] [1] gAdd (fC (.int 1)) (fCallM F__law_draw 1 (fCons [] [] (fC (.int 6)) fNil))))
abbrev W5 : MS := (sSet 5 (fCallM F__law_matrix 1 (fCons [3] [1] (fVar 3) (fCons [4] [1] (fVar 4) (fCons [] [] (fOp [] [1] gIxA (fLst (fCons [] [] (fC (.int 1)) (fCons [] [] (fC (.int 6)) (fCons [] [] (fOp [] [] gPow (fC (.int 10)) (fC (.int 12))) fNil)))) (fCallM F__law_draw 1 (fCons [] [] (fC (.int 3)) fNil))) fNil)))))
abbrev W6 : MS := (sSet 6 (fCall F_rank_modulo (fCons [5] [] (fVar 5) (fCons [2] [] (fVar 2) fNil))))
abbrev W7 : MS := (sIf (fNot (fTr (fCall F__law_is_int (fCons [6] [] (fVar 6) fNil)))) (sRet (fC (.bl false))) sNil)
abbrev W8 : MS := (sIf (fAnd (fB (fOp [3] [] gLt (fVar 3) (fC (.int 5)))) (fB (fOp [4] [] gLt (fVar 4) (fC (.int 5))))) (sSeq (sSet 7 (fCl gLen (fCons [] [] (fComp [8] (iRg2 (fCons [] [] (fC (.int 1)) (fCons [] [] (fOp [] [] gAdd (fCl gMinA (fCons [3] [] (fVar 3) (fCons [4] [] (fVar 4) fNil))) (fC (.int 1))) fNil))) (gNm 8) (fTr (fCall F__law_has (fCons [5] [] (fVar 5) (fCons [8] [] (fVar 8) (fCons [2] [] (fVar 2) fNil))))) (fVal 8)) fNil)))
    (sIf (fB (fOp [6] [] gNe (fVar 6) (fVar 7))) (sRet (fC (.bl false))) sNil)) sNil)
abbrev W9 : MS := (sIf (fAnd (fB (fOp [2] [] gLt (fVar 2) (fC (.int 6)))) (fB (fOp [3] [] gLt (fVar 3) (fC (.int 5))))) (sSeq (sSet 9 (fC (.int 1)))
    (sSeq (sFor (iRg1 (fCons [6] [] (fVar 6) fNil)) (gNm 10) (sSet 9 (fOp [9] [] gMul (fVar 9) (fVar 2))))
    (sIf (fB (fOp [] [] gNe (fCall F__law_span (fCons [5] [] (fVar 5) (fCons [2] [] (fVar 2) fNil))) (fVar 9))) (sRet (fC (.bl false))) sNil))) sNil)
abbrev W10 : MS := (sSet 11 (fCl gTuple (fCons [] [] (fComp [10] (iRg1 (fCons [4] [] (fVar 4) fNil)) (gNm 10) fYes (fCl gTuple (fCons [] [] (fComp [12] (iSeq (fVar 5)) (gNm 12) fYes (chk (fOp [12] [] gIxA (fVar 12) (fVar 10)))) fNil))) fNil)))
abbrev W11 : MS := (sRet (fAndV (fOp [] [] gEq (fCall F_rank_modulo (fCons [11] [] (fVar 11) (fCons [2] [] (fVar 2) fNil))) (fVar 6)) (fOp [] [] gEq (fCall F_rank_modulo (fCons [] [] (fTup fNil) (fCons [2] [] (fVar 2) fNil))) (fC (.int 0)))))
theorem law_split : F_law = runF 1 0 13 (sSeq W1 (sSeq W2 (sSeq W3 (sSeq W4 (sSeq W5 (sSeq W6 (sSeq W7 (sSeq W8 (sSeq W9 (sSeq W10 W11)))))))))) := rfl
end G07

namespace G07
open PySem PySem.Spec PyProof.Rows L2 Vl Pm Dt
/-! ### _law_matrix -/
abbrev maE : M D := (fOp [] [] gSub (fCallM F__law_draw 0 (fCons [] [] (fOp [] [] gAdd (fOp [] [] gMul (fC (.int 2)) (fVar 3)) (fC (.int 1))) fNil)) (fVar 3))
abbrev maC : M D := (fComp [7] (iRg1 (fCons [2] [] (fVar 2) fNil)) (gNm 7) fYes maE)
abbrev maB : MS := (sDrop (fMut 5 "list" gAppend (fCons [] [] (fFz maC) fNil)))
abbrev maL : MS := (sFor (iRg1 (fCons [1] [] (fVar 1) fNil)) (gNm 6) maB)
abbrev maI0 : MS := (sIf (fAnd (fB (fOp [4] [] gEq (fVar 4) (fC (.int 0)))) (fB (fOp [1] [] gGt (fVar 1) (fC (.int 1))))) (sAsg (gSt 5 (fOp [1] [] gSub (fVar 1) (fC (.int 1)))) (fFz (fComp [8] (iSeq (fOp [5] [] gIxA (fVar 5) (fC (.int 0)))) (gNm 8) fYes (fOp [] [] gMul (fC (.int 2)) (fVar 8))))) sNil)
abbrev maI1 : MS := (sIf (fB (fOp [4] [] gEq (fVar 4) (fC (.int 1)))) (sSet 5 (fComp [9] (iSeq (fVar 5)) (gNm 9) fYes (fFz (fComp [8] (iSeq (fVar 9)) (gNm 8) fYes (fOp [] [] gMul (fC (.int 6)) (fVar 8)))))) sNil)
abbrev maR : MS := (sRet (fCl gTuple (fCons [] [] (fComp [9] (iSeq (fVar 5)) (gNm 9) fYes (fCl gTuple (fCons [9] [] (fVar 9) fNil))) fNil)))
theorem ma_split : F__law_matrix = runF 4 1 10 (sSeq (sSet 4 (fCallM F__law_draw 0 (fCons [] [] (fC (.int 4)) fNil))) (sSeq (sSet 5 (fLst fNil)) (sSeq maL (sSeq maI0 (sSeq maI1 maR))))) := rfl
theorem run_at1 {np n : Nat} {b : MS} {ds : List D} {d o : D} {ρ ρ0 : Vl.Env} (hl : ds.length = np) (e : ds.map some ++ List.replicate (n - np) none = ρ0) (h : b ρ0 = some (.rt d ρ)) (ho : Env.at ρ 0 = some o) : runF np 1 n b ds = some (d, [o]) := by
  subst e
  unfold runF
  rw [if_pos hl, h]
  show ((Env.at ρ 0).bind _).bind _ = _
  rw [ho]
  rfl
def rLs (R : List (List Int)) : List D := R.map fun r => .lst false (r.map .int)
abbrev qE (s : D) (m n : Nat) (sz : Int) (x4 : Option D) (l : List D) (x6 x7 : Option D) : Vl.Env := [some s, some (.int (m : Nat)), some (.int (n : Nat)), some (.int sz), x4, some (.lst true l), x6, x7, none, none]
section
variable {m n : Nat} {sz : Int} {x4 x6 x7 : Option D} {l : List D}
theorem compM (h0 : 0 < sz) (h1 : sz ≤ 1000000000000) : ∀ (items : List D) (s : D) (x7 : Option D) (acc : List Int), IsSt s → acc.length + items.length ≤ 100000 →
    ∃ (r : List Int) (s' : D) (y : Option D), compL [7] (gNm 7) fYes maE items (qE s m n sz x4 l x6 x7) (acc.map D.int) = some ((acc ++ r).map D.int, qE s' m n sz x4 l x6 y) ∧ IsSt s' ∧ r.length = items.length ∧ ∀ x ∈ r, x.natAbs ≤ 1000000000000
  | [], s, x7, acc, hs, _ => ⟨[], s, x7, by rw [List.append_nil]; rfl, hs, rfl, fun _ h => by cases h⟩
  | d :: ds, s, x7, acc, hs, hl => by
    rw [List.length_cons] at hl
    obtain ⟨a, s1, e, hs1, a1, a2⟩ := draw s (2 * sz + 1) hs (by omega) (by omega)
    obtain ⟨r, s2, y, h2, h3, h4, h5⟩ := compM h0 h1 ds s1 (some d) (acc ++ [a - sz]) hs1 (by rw [List.length_append, List.length_singleton]; omega)
    refine ⟨(a - sz) :: r, s2, y, ?_, h3, by rw [List.length_cons, List.length_cons, h4], fun x hx => ?_⟩
    · have ev : maE (qE s m n sz x4 l x6 (some d)) = some (.int (a - sz), qE s1 m n sz x4 l x6 (some d)) := op_ok (callM_ok rfl (cons_ok (op_ok (op_ok rfl rfl rfl (gMul_i (cMul_l (by decide)))) rfl rfl (gAdd_i _ _)) rfl rfl) rfl rfl e rfl) rfl rfl (gSub_i _ _)
      have so : szOk (acc.map D.int).length = true := decide_eq_true (by rw [List.length_map]; omega)
      show (maE (qE s m n sz x4 l x6 (some d))).bind _ = _
      rw [ev, Option.bind_some, if_pos so]
      have em : acc.map D.int ++ [D.int (a - sz)] = (acc ++ [a - sz]).map D.int := by rw [List.map_append]; rfl
      show compL _ _ _ _ ds _ (acc.map D.int ++ [D.int (a - sz)]) = _
      rw [em]
      refine h2.trans ?_
      rw [List.append_assoc]
      rfl
    · rcases List.mem_cons.mp hx with rfl | hx
      · omega
      · exact h5 x hx
theorem maC_ok {s : D} (hs : IsSt s) (h0 : 0 < sz) (h1 : sz ≤ 1000000000000) (hn : n ≤ 1000) :
    ∃ (r : List Int) (s' : D), maC (qE s m n sz x4 l x6 none) = some (.lst true (r.map D.int), qE s' m n sz x4 l x6 none) ∧ IsSt s' ∧ r.length = n ∧ ∀ x ∈ r, x.natAbs ≤ 1000000000000 := by
  have it : iRg1 (fCons [2] [] (fVar 2) fNil) (qE s m n sz x4 l x6 none) = some (nsD (List.range n), qE s m n sz x4 l x6 none) := by
    rw [iRg1_ok (j := (n : Nat)) (ρ1 := qE s m n sz x4 l x6 none) (cons_ok rfl rfl rfl) (okR_n (by omega) (by omega)), Int.toNat_natCast, rg0_ns]
  obtain ⟨r, s', y, h2, h3, h4, h5⟩ := compM (m := m) (n := n) (x4 := x4) (l := l) (x6 := x6) h0 h1 (nsD (List.range n)) s none [] hs (by rw [nsD_len, List.length_range]; show 0 + _ ≤ _; omega)
  refine ⟨r, s', ?_, h3, by rw [h4, nsD_len, List.length_range], h5⟩
  unfold maC fComp
  rw [it, Option.bind_some, if_pos (show ownOk (qE s m n sz x4 l x6 none) [7] = true from rfl)]
  show (compL _ _ _ _ _ _ (([] : List Int).map D.int)).bind _ = _
  rw [h2, Option.bind_some]
  rfl
theorem maL_ok {s : D} (hs : IsSt s) (h0 : 0 < sz) (h1 : sz ≤ 1000000000000) (hn : n ≤ 1000) (hm : m ≤ 1000) :
    ∃ (F : Mx) (s' : D) (y : Option D), maL (qE s m n sz x4 [] none none) = some (.nx (qE s' m n sz x4 (lD m n F) y none)) ∧ IsSt s' ∧ ∀ i j, i < m → j < n → (F i j).natAbs ≤ 1000000000000 := by
  have it : iRg1 (fCons [1] [] (fVar 1) fNil) (qE s m n sz x4 [] none none) = some (nsD (List.range m), qE s m n sz x4 [] none none) := by
    rw [iRg1_ok (j := (m : Nat)) (ρ1 := qE s m n sz x4 [] none none) (cons_ok rfl rfl rfl) (okR_n (by omega) (by omega)), Int.toNat_natCast, rg0_ns]
  obtain ⟨ρ', hf, R, s', y, rfl, hs', hl, hR⟩ := for_inv (i := 6) (body := maB) (fun c ρ => ∃ (R : List (List Int)) (s' : D) (y : Option D), ρ = qE s' m n sz x4 (rLs R) y none ∧ IsSt s' ∧ R.length = c ∧ ∀ r ∈ R, r.length = n ∧ ∀ x ∈ r, x.natAbs ≤ 1000000000000) (nsD (List.range m)) 0 (qE s m n sz x4 [] none none) ⟨[], s, none, rfl, hs, rfl, fun _ h => by cases h⟩ fun c d ρ hd hI => by
    rw [Nat.zero_add] at hI ⊢
    obtain ⟨R, s1, y, rfl, hs1, hl, hR⟩ := hI
    obtain ⟨hc, _⟩ := ns_get hd
    rw [List.length_range] at hc
    obtain ⟨r, s2, e1, hs2, e3, e4⟩ := maC_ok (m := m) (n := n) (x4 := x4) (l := rLs R) (x6 := some d) hs1 h0 h1 hn
    have fz : (D.lst true (r.map D.int)).frz = .lst false (r.map D.int) := congrArg (D.lst false) (frzL_ints r)
    refine ⟨qE s2 m n sz x4 (rLs (R ++ [r])) (some d) none, app_to (l := rLs R) (e := .lst false (r.map D.int)) (ρ1 := qE s2 m n sz x4 (rLs R) (some d) none) rfl (cons_ok (fz ▸ fz_ok e1) rfl rfl) rfl (decide_eq_true (by unfold rLs; rw [List.length_map]; omega)) ?_, R ++ [r], s2, _, rfl, hs2, by rw [List.length_append, List.length_singleton]; omega, fun r' h' => ?_⟩
    · unfold rLs
      rw [List.map_append]
      rfl
    · rcases List.mem_append.mp h' with h' | h'
      · exact hR r' h'
      · rw [List.mem_singleton.mp h']
        exact ⟨e3, e4⟩
  rw [Nat.zero_add, nsD_len, List.length_range] at hl
  have e : rLs R = lD m n fun i j => vec (R.getD i []) j := by
    subst hl
    unfold rLs lD
    refine List.ext_getElem (by simp) fun i h1 h2 => ?_
    rw [List.getElem_map, List.getElem_map, List.getElem_range]
    have hi : i < R.length := by simpa using h1
    obtain ⟨q1, q2⟩ := hR R[i] (List.getElem_mem hi)
    unfold rwN
    show D.lst false _ = D.lst false ((List.range n).map fun j => .int (vec (R.getD i []) j))
    rw [List.getD_eq_getElem?_getD, List.getElem?_eq_getElem hi]
    refine congrArg (D.lst false) (List.ext_getElem (by simp [q1]) fun j h3 h4 => ?_)
    rw [List.getElem_map, List.getElem_map, List.getElem_range]
    exact congrArg D.int (vec_get (by simpa using h3)).symm
  rw [e] at hf
  refine ⟨_, s', y, (for_it it).trans hf, hs', fun i j hi hj => ?_⟩
  subst hl
  obtain ⟨q1, q2⟩ := hR R[i] (List.getElem_mem hi)
  rw [List.getD_eq_getElem?_getD, List.getElem?_eq_getElem hi]
  show (vec R[i] j).natAbs ≤ _
  rw [vec_get (by omega)]
  exact q2 _ (List.getElem_mem _)
theorem maI0_ok {s : D} {k : Int} {F : Mx} (h1 : 1 ≤ m) (hn : n ≤ 1000) (hF : ∀ i j, i < m → j < n → (F i j).natAbs ≤ 1000000000000) :
    ∃ G : Mx, maI0 (qE s m n sz (some (.int k)) (lD m n F) x6 none) = some (.nx (qE s m n sz (some (.int k)) (lD m n G) x6 none)) ∧ ∀ i j, i < m → j < n → (G i j).natAbs ≤ 2000000000000 := by
  have t1 : fB (fOp [4] [] gEq (fVar 4) (fC (.int 0))) (qE s m n sz (some (.int k)) (lD m n F) x6 none) = some (decide (k = 0), qE s m n sz (some (.int k)) (lD m n F) x6 none) := b_ok (op_ok rfl rfl rfl (gEq_i _ _))
  have t2 : fB (fOp [1] [] gGt (fVar 1) (fC (.int 1))) (qE s m n sz (some (.int k)) (lD m n F) x6 none) = some (decide ((m : Int) > 1), qE s m n sz (some (.int k)) (lD m n F) x6 none) := b_ok (op_ok rfl rfl rfl rfl)
  by_cases c1 : k = 0
  · by_cases c2 : (m : Int) > 1
    · rw [decide_eq_true c1] at t1
      rw [decide_eq_true c2] at t2
      have cc := comp_row (i := 8) (n := n) (fi := (iSeq (fOp [5] [] gIxA (fVar 5) (fC (.int 0))))) (fe := (fOp [] [] gMul (fC (.int 2)) (fVar 8))) (ρ0 := qE s m n sz (some (.int k)) (lD m n F) x6 none) (ρ1 := qE s m n sz (some (.int k)) (lD m n F) x6 none) (x := F 0) (fun z => 2 * z) (seq_it (ixl_ok rfl rfl (safe_r1 _ _) (lD_at 0 rfl (by omega))) (if_pos (no_rwN _ _))) rfl (fun z _ => op_ok rfl rfl rfl (gMul_i (cMul_l (by decide)))) hn
      have f1 : fFz (fComp [8] (iSeq (fOp [5] [] gIxA (fVar 5) (fC (.int 0)))) (gNm 8) fYes (fOp [] [] gMul (fC (.int 2)) (fVar 8))) (qE s m n sz (some (.int k)) (lD m n F) x6 none) = some (.lst false (rwN n fun j => 2 * F 0 j), qE s m n sz (some (.int k)) (lD m n F) x6 none) := by
        rw [← fz_row]
        exact fz_ok cc
      refine ⟨setr F (m - 1) fun j => 2 * F 0 j, (if_t ((and_t t1).trans t2)).trans (asg_ok f1 (no_rwN n _) (st_ok rfl (op_ok rfl rfl rfl (gSub_i _ _)) rfl (gSet_lD (m - 1) (fun j => 2 * F 0 j) (by omega) (by omega)) rfl)), fun i j hi hj => ?_⟩
      unfold setr
      have a1 := hF i j hi hj
      have a2 := hF 0 j (by omega) hj
      by_cases q : i = m - 1
      · rw [if_pos q]
        show (2 * F 0 j).natAbs ≤ _
        omega
      · rw [if_neg q]
        omega
    · rw [decide_eq_true c1] at t1
      rw [decide_eq_false c2] at t2
      exact ⟨F, (if_f ((and_t t1).trans t2)).trans rfl, fun i j hi hj => by have := hF i j hi hj; omega⟩
  · rw [decide_eq_false c1] at t1
    exact ⟨F, (if_f (and_f t1)).trans rfl, fun i j hi hj => by have := hF i j hi hj; omega⟩
theorem maI1_ok {s : D} {k : Int} {F : Mx} (hm : m ≤ 1000) (hn : n ≤ 1000) (hF : ∀ i j, i < m → j < n → (F i j).natAbs ≤ 2000000000000) :
    ∃ G : Mx, maI1 (qE s m n sz (some (.int k)) (lD m n F) x6 none) = some (.nx (qE s m n sz (some (.int k)) (lD m n G) x6 none)) ∧ ∀ i j, i < m → j < n → (G i j).natAbs ≤ 12000000000000 := by
  have t1 : fB (fOp [4] [] gEq (fVar 4) (fC (.int 1))) (qE s m n sz (some (.int k)) (lD m n F) x6 none) = some (decide (k = 1), qE s m n sz (some (.int k)) (lD m n F) x6 none) := b_ok (op_ok rfl rfl rfl (gEq_i _ _))
  by_cases c1 : k = 1
  · rw [decide_eq_true c1] at t1
    have cc := fComp_all (i := 9) (fi := iSeq (fVar 5)) (fe := (fFz (fComp [8] (iSeq (fVar 9)) (gNm 8) fYes (fOp [] [] gMul (fC (.int 6)) (fVar 8))))) (ρ0 := qE s m n sz (some (.int k)) (lD m n F) x6 none) (ρ1 := qE s m n sz (some (.int k)) (lD m n F) x6 none)
      (fun d => match d with | .lst _ l => .lst false (l.map fun d => match d with | .int z => .int (6 * z) | d => d) | d => d) (seq_it rfl (if_pos (no_lD _ _ _))) rfl (fun d hd => by
        obtain ⟨i, hi, rfl⟩ := List.mem_map.mp hd
        have c := comp_row (i := 8) (n := n) (fi := (iSeq (fVar 9))) (fe := (fOp [] [] gMul (fC (.int 6)) (fVar 8))) (ρ0 := (qE s m n sz (some (.int k)) (lD m n F) x6 none).set 9 (some (.lst false (rwN n (F i))))) (x := F i) (fun z => 6 * z) (seq_it rfl (if_pos (no_rwN _ _))) rfl (fun z _ => op_ok rfl rfl rfl (gMul_i (cMul_l (by decide)))) hn
        have e : (rwN n (F i)).map (fun d => match d with | .int z => .int (6 * z) | d => d) = rwN n fun j => 6 * F i j := by
          unfold rwN
          rw [List.map_map]
          rfl
        show _ = some (D.lst false ((rwN n (F i)).map fun d => match d with | .int z => .int (6 * z) | d => d), _)
        rw [e]
        have f := fz_ok c
        rw [fz_row] at f
        exact f) (by rw [lD_len]; omega)
    have e : (lD m n F).map (fun d => match d with | .lst _ l => .lst false (l.map fun d => match d with | .int z => .int (6 * z) | d => d) | d => d) = lD m n fun i j => 6 * F i j := by
      unfold lD rwN
      rw [List.map_map]
      refine List.map_congr_left fun i _ => ?_
      show D.lst false (List.map _ (List.map _ _)) = _
      rw [List.map_map]
      rfl
    rw [e] at cc
    exact ⟨fun i j => 6 * F i j, (if_t t1).trans (set_to cc rfl), fun i j hi hj => by have := hF i j hi hj; show (6 * F i j).natAbs ≤ _; omega⟩
  · rw [decide_eq_false c1] at t1
    exact ⟨F, (if_f t1).trans rfl, fun i j hi hj => by have := hF i j hi hj; omega⟩
theorem maR_ok {s : D} {k : Int} {F : Mx} (hm : m ≤ 1000) : maR (qE s m n sz (some (.int k)) (lD m n F) x6 none) = some (.rt (.tup (tD m n F)) (qE s m n sz (some (.int k)) (lD m n F) x6 none)) := by
  have cc := fComp_all (i := 9) (fi := iSeq (fVar 5)) (fe := (fCl gTuple (fCons [9] [] (fVar 9) fNil))) (ρ0 := qE s m n sz (some (.int k)) (lD m n F) x6 none) (ρ1 := qE s m n sz (some (.int k)) (lD m n F) x6 none)
    (fun d => match d with | .lst _ l => .tup l | d => d) (seq_it rfl (if_pos (no_lD _ _ _))) rfl (fun d hd => by
      obtain ⟨i, hi, rfl⟩ := List.mem_map.mp hd
      exact cl_ok (cons_ok rfl rfl (safe_r1 _ _)) (if_pos (no_rwN _ _))) (by rw [lD_len]; omega)
  have e : (lD m n F).map (fun d => match d with | .lst _ l => .tup l | d => d) = tD m n F := by
    unfold lD tD
    rw [List.map_map]
    rfl
  rw [e] at cc
  exact ret_ok (cl_ok (cons_ok cc rfl rfl) (if_pos (no_tD _ _ _)))
theorem ma_ok {s : D} (hs : IsSt s) (h0 : 0 < sz) (h1 : sz ≤ 1000000000000) (hm1 : 1 ≤ m) (hm : m ≤ 1000) (hn : n ≤ 1000) :
    ∃ (A : Mx) (s' : D), F__law_matrix [s, .int (m : Nat), .int (n : Nat), .int sz] = some (.tup (tD m n A), [s']) ∧ IsSt s' ∧ ∀ i j, i < m → j < n → (A i j).natAbs < 2 ^ 63 := by
  obtain ⟨k, s1, d1, hs1, _, _⟩ := draw s 4 hs (by decide) (by decide)
  obtain ⟨F, s2, y, e1, hs2, b1⟩ := maL_ok (m := m) (n := n) (x4 := some (.int k)) hs1 h0 h1 hn hm
  obtain ⟨G, e2, b2⟩ := maI0_ok (s := s2) (sz := sz) (k := k) (x6 := y) hm1 hn b1
  obtain ⟨A, e3, b3⟩ := maI1_ok (s := s2) (sz := sz) (k := k) (x6 := y) hm hn b2
  refine ⟨A, s2, ?_, hs2, fun i j hi hj => Nat.lt_of_le_of_lt (b3 i j hi hj) (by decide)⟩
  rw [ma_split]
  refine run_at1 (ρ0 := [some s, some (.int (m : Nat)), some (.int (n : Nat)), some (.int sz), none, none, none, none, none, none]) (ρ := qE s2 m n sz (some (.int k)) (lD m n A) y none) rfl rfl ?_ rfl
  rw [seq_nx (ρ' := [some s1, some (.int (m : Nat)), some (.int (n : Nat)), some (.int sz), some (.int k), none, none, none, none, none]) (set_to (callM_ok rfl (cons_ok rfl rfl rfl) rfl rfl d1 rfl) rfl)]
  rw [seq_nx (ρ' := qE s1 m n sz (some (.int k)) [] none none) (set_to (lst_ok (ds := []) rfl rfl) rfl)]
  rw [seq_nx e1, seq_nx e2, seq_nx e3]
  exact maR_ok hm
end
end G07

namespace G07
open PySem PySem.Spec PyProof.Rows L2 Vl Pm Dt
abbrev lE (z s : D) (p m n : Nat) (A : Mx) (r : Nat) (x7 x9 x10 x11 : Option D) : Vl.Env := [some z, some s, some (.int (p : Nat)), some (.int (m : Nat)), some (.int (n : Nat)), some (.tup (tD m n A)), some (.int (r : Nat)), x7, none, x9, x10, x11, none]
section
variable {z s : D} {p m n r : Nat} {A R : Mx} {q : Nat → Nat} {x7 x9 x10 x11 : Option D}
theorem not_ok {f : M Bool} {k : Bool} {ρ ρ1 : Vl.Env} (h : f ρ = some (k, ρ1)) : fNot f ρ = some (!k, ρ1) := by
  show (f ρ).bind _ = _
  rw [h]
  rfl
theorem notv_ok {f : M D} {k : Bool} {ρ ρ1 : Vl.Env} (h : f ρ = some (.bl k, ρ1)) : fNotV f ρ = some (.bl (!k), ρ1) := by
  show (fB f ρ).bind _ = _
  rw [b_ok h]
  rfl
theorem isn_ok {c : String} {f : M D} {d : D} {k : Bool} {ρ ρ1 : Vl.Env} (h : f ρ = some (d, ρ1)) (hn : notLk d = true) (hk : kitB (tagOf d) c = some k) : fIsN c f ρ = some (.bl k, ρ1) := by
  show (f ρ).bind _ = _
  rw [h, Option.bind_some, if_pos hn, hk]
  rfl
theorem kb1 : kitB "int" "int" = some true := by decide +kernel
theorem kb2 : kitB "int" "bool" = some false := by decide +kernel
theorem is_int_ok (x : Int) : F__law_is_int [.int x] = some (.bl true, []) :=
  run_at (ρ0 := [some (.int x)]) (ρ := [some (.int x)]) rfl rfl (ret_ok ((andv_t (isn_ok (d := .int x) rfl rfl kb1)).trans (notv_ok (isn_ok (d := .int x) rfl rfl kb2))))
theorem w7_ok : W7 (lE z s p m n A r x7 x9 x10 x11) = some (.nx (lE z s p m n A r x7 x9 x10 x11)) :=
  (if_f (not_ok (tr_ok (call_ok (cons_ok rfl rfl (safe_r1 _ _)) rfl rfl (is_int_ok _)) rfl))).trans rfl
theorem lt_ok {i k : Nat} {ρ : Vl.Env} {c : Int} (h : Env.at ρ i = some (.int (k : Nat))) : fB (fOp [i] [] gLt (fVar i) (fC (.int c))) ρ = some (decide ((k : Int) < c), ρ) :=
  b_ok (op_ok (var_ok h) rfl (safe_r1 _ _) rfl)
theorem cnt : ∀ N, N < 5 → ∀ r, r < 5 → r ≤ N → ((List.range' 1 N).filter fun k => decide (k ≤ r)).length = r := by decide
theorem min_ok (h1 : 1 ≤ m ∧ m ≤ 4) (h2 : 1 ≤ n ∧ n ≤ 4) : gMinA [.int (m : Nat), .int (n : Nat)] = some (.int ((min m n : Nat) : Nat)) := by
  obtain ⟨a1, a2⟩ := h1
  obtain ⟨b1, b2⟩ := h2
  rcases (show m = 1 ∨ m = 2 ∨ m = 3 ∨ m = 4 by omega) with e | e | e | e <;> subst e <;>
    rcases (show n = 1 ∨ n = 2 ∨ n = 3 ∨ n = 4 by omega) with e | e | e | e <;> subst e <;> rfl
theorem has_r (hp : 1 < p) (hm : 1 ≤ m ∧ m ≤ 4) (hn : 1 ≤ n ∧ n ≤ 4) (G : Gs (p : Nat) m n A n r R q) (hA : ∀ i j, i < m → j < n → (A i j).natAbs < 2 ^ 63) {k : Nat} (hk : 1 ≤ k ∧ k ≤ 4) :
    F__law_has [.tup (tD m n A), .int (k : Nat), .int (p : Nat)] = some (.bl (decide (k ≤ r)), []) := by
  obtain ⟨b, e, h⟩ := has_ok (p := p) hm hn hk (by omega) hA
  rw [e]
  have v := (G.van k (by omega)).symm.trans (G.fin.van (k := k) (by omega) (by omega))
  rw [v] at h
  have : b = decide (k ≤ r) := by
    rw [Bool.eq_iff_iff, h, decide_eq_true_eq]
    omega
  rw [this]
theorem w8_ok (hp : 1 < p) (hm : 1 ≤ m) (hn : 1 ≤ n) (G : Gs (p : Nat) m n A n r R q) (hA : ∀ i j, i < m → j < n → (A i j).natAbs < 2 ^ 63) : ∃ y7, W8 (lE z s p m n A r none x9 x10 x11) = some (.nx (lE z s p m n A r y7 x9 x10 x11)) := by
  have t1 := lt_ok (i := 3) (k := m) (ρ := lE z s p m n A r none x9 x10 x11) (c := 5) rfl
  have t2 := lt_ok (i := 4) (k := n) (ρ := lE z s p m n A r none x9 x10 x11) (c := 5) rfl
  by_cases c1 : (m : Int) < 5
  · by_cases c2 : (n : Int) < 5
    · rw [decide_eq_true c1] at t1
      rw [decide_eq_true c2] at t2
      have hm' : 1 ≤ m ∧ m ≤ 4 := ⟨hm, by omega⟩
      have hn' : 1 ≤ n ∧ n ≤ 4 := ⟨hn, by omega⟩
      have it : iRg2 (fCons [] [] (fC (.int 1)) (fCons [] [] (fOp [] [] gAdd (fCl gMinA (fCons [3] [] (fVar 3) (fCons [4] [] (fVar 4) fNil))) (fC (.int 1))) fNil)) (lE z s p m n A r none x9 x10 x11) = some (nsD (List.range' 1 (min m n)), lE z s p m n A r none x9 x10 x11) := by
        rw [iRg2_ok (i := 1) (j := ((min m n : Nat) : Nat) + 1) (ρ1 := lE z s p m n A r none x9 x10 x11) (cons_ok rfl (cons_ok (op_ok (cl_ok (cons_ok rfl (cons_ok rfl rfl rfl) rfl) (min_ok hm' hn')) rfl rfl (gAdd_i _ _)) rfl rfl) rfl) rfl (okR_n (by omega) (by omega))]
        rw [show (((min m n : Nat) : Int) + 1 - 1).toNat = min m n by omega]
        exact congrArg (fun l => some (l, _)) (rg_ns 1 (min m n))
      have cc := comp_ns (i := 8) (ft := (fTr (fCall F__law_has (fCons [5] [] (fVar 5) (fCons [8] [] (fVar 8) (fCons [2] [] (fVar 2) fNil)))))) (fe := fVal 8) (ρ0 := lE z s p m n A r none x9 x10 x11) (fun k => decide (k ≤ r)) (fun k => .int (k : Nat)) it rfl (fun k hk => by
        have hk := List.mem_range'_1.mp hk
        refine tr_ok (d := .bl (decide (k ≤ r))) (call_ok (ds := [.tup (tD m n A), .int (k : Nat), .int (p : Nat)]) (cons_ok rfl (cons_ok rfl (cons_ok rfl rfl rfl) rfl) (safe_r1 _ _)) (frzL3 (congrArg D.tup (frz_tD _ _ _)) rfl rfl) ?_ (has_r hp hm' hn' G hA (by omega))) rfl
        show (D.noOwnL (tD m n A) && _) = true
        rw [no_tD]
        rfl) (fun k hk _ => rfl) (by rw [List.length_range']; omega)
      rw [← nsD_eq] at cc
      have ln : gLen [.lst true (nsD ((List.range' 1 (min m n)).filter fun k => decide (k ≤ r)))] = some (.int (r : Nat)) := by
        rw [gLen_l, nsD_len, cnt (min m n) (by omega) r (by have := G.rm; omega) (by have := G.rm; have := G.rc; omega)]
      refine ⟨some (.int (r : Nat)), (if_t ((and_t t1).trans t2)).trans ((seq_nx (set_to (cl_ok (cons_ok cc rfl rfl) ln) rfl)).trans ((if_f (b_ok (op_ok rfl rfl rfl ((gNe_i _ _).trans (by rw [decide_eq_true rfl]; rfl))))).trans rfl))⟩
    · rw [decide_eq_true c1] at t1
      rw [decide_eq_false c2] at t2
      exact ⟨none, (if_f ((and_t t1).trans t2)).trans rfl⟩
  · rw [decide_eq_false c1] at t1
    exact ⟨none, (if_f (and_f t1)).trans rfl⟩
theorem w9_ok (hp : 0 < p) (hm : 1 ≤ m ∧ m ≤ 5) (hn : 1 ≤ n ∧ n ≤ 6) (G : Gs (p : Nat) m n A n r R q) (pr : p = 2 ∨ p = 3 ∨ p = 5 ∨ 6 ≤ p) : ∃ (y9 : Option D) (y10 : Option Int), W9 (lE z s p m n A r x7 none none x11) = some (.nx (lE z s p m n A r x7 y9 (y10.map D.int) x11)) := by
  have t1 := lt_ok (i := 2) (k := p) (ρ := lE z s p m n A r x7 none none x11) (c := 6) rfl
  have t2 := lt_ok (i := 3) (k := m) (ρ := lE z s p m n A r x7 none none x11) (c := 5) rfl
  by_cases c1 : (p : Int) < 6
  · by_cases c2 : (m : Int) < 5
    · rw [decide_eq_true c1] at t1
      rw [decide_eq_true c2] at t2
      have rm := G.rm
      have it : iRg1 (fCons [6] [] (fVar 6) fNil) (lE z s p m n A r x7 (some (.int 1)) none x11) = some (nsD (List.range r), lE z s p m n A r x7 (some (.int 1)) none x11) := by
        rw [iRg1_ok (j := (r : Nat)) (ρ1 := lE z s p m n A r x7 (some (.int 1)) none x11) (cons_ok rfl rfl rfl) (okR_n (by omega) (by omega)), Int.toNat_natCast, rg0_ns]
      obtain ⟨ρ', hf, y, rfl⟩ := for_inv (i := 10) (body := sSet 9 (fOp [9] [] gMul (fVar 9) (fVar 2))) (fun c ρ => ∃ y : Option Int, ρ = lE z s p m n A r x7 (some (.int ((p ^ c : Nat) : Nat))) (y.map D.int) x11) (nsD (List.range r)) 0 (lE z s p m n A r x7 (some (.int 1)) none x11) ⟨none, rfl⟩ fun c d ρ hd hI => by
        rw [Nat.zero_add] at hI ⊢
        obtain ⟨y, rfl⟩ := hI
        obtain ⟨hc, rfl⟩ := ns_get hd
        refine ⟨lE z s p m n A r x7 (some (.int ((p ^ (c + 1) : Nat) : Nat))) (some (.int (ix (List.range r) c : Nat))) x11, set_to (op_ok rfl rfl rfl (gMul_i (cMul_r (by omega)))) ?_, some _, rfl⟩
        rw [Nat.pow_succ, Int.natCast_mul]
        rfl
      rw [Nat.zero_add, nsD_len, List.length_range] at hf
      have sp : fCall F__law_span (fCons [5] [] (fVar 5) (fCons [2] [] (fVar 2) fNil)) (lE z s p m n A r x7 (some (.int ((p ^ r : Nat) : Nat))) (y.map D.int) x11) = some (.int ((p ^ r : Nat) : Nat), lE z s p m n A r x7 (some (.int ((p ^ r : Nat) : Nat))) (y.map D.int) x11) := by
        refine call_ok (ds := [.tup (tD m n A), .int (p : Nat)]) (cons_ok rfl (cons_ok rfl rfl rfl) (safe_r1 _ _)) (frzL2 (congrArg D.tup (frz_tD _ _ _)) rfl) (noL2 (no_tD _ _ _) rfl) ?_
        rw [span_ok hp (by omega) hm.1 (by omega) (by omega) (by omega), sS_pow hp G]
      exact ⟨some (.int ((p ^ r : Nat) : Nat)), y, (if_t ((and_t t1).trans t2)).trans ((seq_nx (set_to rfl rfl)).trans ((seq_nx ((for_it it).trans hf)).trans ((if_f (b_ok (op_ok sp rfl rfl ((gNe_i _ _).trans (by rw [decide_eq_true rfl]; rfl))))).trans rfl)))⟩
    · rw [decide_eq_true c1] at t1
      rw [decide_eq_false c2] at t2
      exact ⟨none, none, (if_f ((and_t t1).trans t2)).trans rfl⟩
  · rw [decide_eq_false c1] at t1
    exact ⟨none, none, (if_f (and_f t1)).trans rfl⟩
theorem w10_ok {y : Option Int} (hm : m ≤ 1000) (hn : n ≤ 1000) : W10 (lE z s p m n A r x7 x9 (y.map D.int) x11) = some (.nx (lE z s p m n A r x7 x9 (y.map D.int) (some (.tup (tD n m fun i j => A j i))))) := by
  have it : iRg1 (fCons [4] [] (fVar 4) fNil) (lE z s p m n A r x7 x9 (y.map D.int) x11) = some (nsD (List.range n), lE z s p m n A r x7 x9 (y.map D.int) x11) := by
    rw [iRg1_ok (j := (n : Nat)) (ρ1 := lE z s p m n A r x7 x9 (y.map D.int) x11) (cons_ok rfl rfl rfl) (okR_n (by omega) (by omega)), Int.toNat_natCast, rg0_ns]
  have inn : ∀ k, k < n → fCl gTuple (fCons [] [] (fComp [12] (iSeq (fVar 5)) (gNm 12) fYes (chk (fOp [12] [] gIxA (fVar 12) (fVar 10)))) fNil) ((lE z s p m n A r x7 x9 (y.map D.int) x11).set 10 (some (.int (k : Nat)))) = some (.tup (rwN m fun i => A i k), (lE z s p m n A r x7 x9 (y.map D.int) x11).set 10 (some (.int (k : Nat)))) := fun k hk => by
    have c := fComp_all (i := 12) (fi := iSeq (fVar 5)) (fe := (chk (fOp [12] [] gIxA (fVar 12) (fVar 10)))) (ρ0 := (lE z s p m n A r x7 x9 (y.map D.int) x11).set 10 (some (.int (k : Nat)))) (ρ1 := (lE z s p m n A r x7 x9 (y.map D.int) x11).set 10 (some (.int (k : Nat)))) (fun d => match d with | .tup l => l.getD k .non | d => d) (seq_it rfl (if_pos (no_tD _ _ _))) rfl (fun d hd => by
      obtain ⟨i, hi, rfl⟩ := List.mem_map.mp hd
      have g : (rwN n (A i)).getD k .non = .int (A i k) := by
        rw [List.getD_eq_getElem?_getD]
        unfold rwN
        rw [List.getElem?_map, List.getElem?_range hk]
        rfl
      show _ = some ((rwN n (A i)).getD k .non, _)
      rw [g]
      exact chk_ok (ixt_ok rfl rfl (safe_r1 _ _) (rwN_at k rfl hk)) rfl) (by rw [tD_len]; omega)
    have e : (tD m n A).map (fun d => match d with | .tup l => l.getD k .non | d => d) = rwN m fun i => A i k := by
      unfold tD
      rw [List.map_map]
      unfold rwN
      refine List.map_congr_left fun i _ => ?_
      show ((List.range n).map fun j => D.int (A i j)).getD k .non = _
      rw [List.getD_eq_getElem?_getD, List.getElem?_map, List.getElem?_range hk]
      rfl
    rw [e] at c
    exact cl_ok (cons_ok c rfl rfl) (if_pos (no_rwN _ _))
  have cc := comp_ns (i := 10) (ft := fYes) (fe := (fCl gTuple (fCons [] [] (fComp [12] (iSeq (fVar 5)) (gNm 12) fYes (chk (fOp [12] [] gIxA (fVar 12) (fVar 10)))) fNil))) (ρ0 := lE z s p m n A r x7 x9 (y.map D.int) x11) (fun _ => true) (fun k => .tup (rwN m fun i => A i k)) it (by cases y <;> rfl) (fun k _ => rfl) (fun k hk _ => inn k (List.mem_range.mp hk)) (by rw [List.length_range]; omega)
  rw [show (List.range n).filter (fun _ => true) = List.range n from List.filter_eq_self.mpr fun _ _ => rfl] at cc
  exact set_to (cl_ok (cons_ok cc rfl rfl) (if_pos (no_tD n m fun i j => A j i))) rfl
theorem r_one {r' : Nat} {R' : Mx} {q' : Nat → Nat} (hp : 1 < p) (hm : m ≤ 5) (G : Gs (p : Nat) m n A n r R q) (G' : Gs (p : Nat) n m (fun i j => A j i) m r' R' q') : r' = r := by
  have a : ∀ k, k ≤ 5 → (r < k ↔ r' < k) := fun k hk => by
    have v1 := (G.van k hk).symm.trans (G.fin.van (k := k) (by omega) hk)
    have v2 := (G'.van k hk).symm.trans (G'.fin.van (k := k) (by omega) hk)
    rw [← v1, ← v2]
    exact (van_turn hk).symm
  have h1 := G.rm
  have h2 := G'.rc
  rcases Nat.lt_trichotomy r r' with h | h | h
  · have := (a r' (by omega)).mp h
    omega
  · exact h.symm
  · have := (a r (by omega)).mpr h
    omega
theorem w11_ok (hp : p ∈ [2, 3, 5, 7, 11, 13]) (hp1 : 1 < p) (hm : 1 ≤ m ∧ m ≤ 5) (hn : 1 ≤ n ∧ n ≤ 6) (G : Gs (p : Nat) m n A n r R q) : W11 (lE z s p m n A r x7 x9 x10 (some (.tup (tD n m fun i j => A j i)))) = some (.rt (.bl true) (lE z s p m n A r x7 x9 x10 (some (.tup (tD n m fun i j => A j i))))) := by
  obtain ⟨r', R', q', e, G'⟩ := rank_ok (m := n) (n := m) (A := fun i j => A j i) hp hn.1 (by omega) (by omega)
  have := r_one hp1 hm.2 G G'
  subst this
  have c1 : fCall F_rank_modulo (fCons [11] [] (fVar 11) (fCons [2] [] (fVar 2) fNil)) (lE z s p m n A r' x7 x9 x10 (some (.tup (tD n m fun i j => A j i)))) = some (.int (r' : Nat), lE z s p m n A r' x7 x9 x10 (some (.tup (tD n m fun i j => A j i)))) :=
    call_ok (ds := [.tup (tD n m fun i j => A j i), .int (p : Nat)]) (cons_ok rfl (cons_ok rfl rfl rfl) (safe_r1 _ _)) (frzL2 (congrArg D.tup (frz_tD _ _ _)) rfl) (noL2 (no_tD _ _ _) rfl) e
  have c2 : fCall F_rank_modulo (fCons [] [] (fTup fNil) (fCons [2] [] (fVar 2) fNil)) (lE z s p m n A r' x7 x9 x10 (some (.tup (tD n m fun i j => A j i)))) = some (.int 0, lE z s p m n A r' x7 x9 x10 (some (.tup (tD n m fun i j => A j i)))) :=
    call_ok (ds := [.tup [], .int (p : Nat)]) (cons_ok (tup_ok (ds := []) rfl rfl) (cons_ok rfl rfl rfl) rfl) rfl rfl rank_nil
  exact ret_ok ((andv_t (op_ok c1 rfl rfl ((gEq_i _ _).trans (by rw [decide_eq_true rfl])))).trans (op_ok c2 rfl rfl ((gEq_i _ _).trans (by rw [decide_eq_true rfl]))))
end
theorem p_in (r : Int) (h1 : 0 ≤ r) (h2 : r < 6) : ∃ p : Nat, p ∈ ([2, 3, 5, 7, 11, 13] : List Nat) ∧ L2.atI [D.int 2, D.int 3, D.int 5, D.int 7, D.int 11, D.int 13] r = some (D.int (p : Nat)) := by
  have : r = 0 ∨ r = 1 ∨ r = 2 ∨ r = 3 ∨ r = 4 ∨ r = 5 := by omega
  rcases this with e | e | e | e | e | e <;> subst e
  · exact ⟨2, by decide, rfl⟩
  · exact ⟨3, by decide, rfl⟩
  · exact ⟨5, by decide, rfl⟩
  · exact ⟨7, by decide, rfl⟩
  · exact ⟨11, by decide, rfl⟩
  · exact ⟨13, by decide, rfl⟩
theorem sz_in (r : Int) (h1 : 0 ≤ r) (h2 : r < 3) : ∃ sz : Int, 0 < sz ∧ sz ≤ 1000000000000 ∧ L2.atI [D.int 1, D.int 6, D.int (10 ^ 12)] r = some (D.int sz) := by
  have : r = 0 ∨ r = 1 ∨ r = 2 := by omega
  rcases this with e | e | e <;> subst e
  · exact ⟨1, by decide, by decide, rfl⟩
  · exact ⟨6, by decide, by decide, rfl⟩
  · exact ⟨10 ^ 12, by decide, by decide, rfl⟩
theorem law_true (ns : List Int) (hl : ns.length ≤ 63) (hb : ∀ z ∈ ns, Builtin.Int.intBits z ≤ 1048576) : F_law [.scr (ns.map .int)] = some (.bl true, []) := by
  obtain ⟨s0, e0, q0⟩ := state_ok ns hl
  have f0 : D.frzL [D.scr (ns.map .int)] = [D.scr (ns.map .int)] := frzL1 (congrArg D.scr (frzL_ints ns))
  have n0 : D.noOwnL [D.scr (ns.map .int)] = true := noL1 (noOwnL_ints ns)
  generalize hz : (D.scr (ns.map .int)) = z at e0 f0 n0 ⊢
  have st : fCall F__law_state (fCons [0] [] (fVar 0) fNil) [some z, none, none, none, none, none, none, none, none, none, none, none, none] = some (s0, [some z, none, none, none, none, none, none, none, none, none, none, none, none]) :=
    call_ok (ds := [z]) (cons_ok rfl rfl rfl) f0 n0 e0
  obtain ⟨r1, s1, d1, q1, a1, b1⟩ := draw s0 6 q0 (by decide) (by decide)
  obtain ⟨r2, s2, d2, q2, a2, b2⟩ := draw s1 5 q1 (by decide) (by decide)
  obtain ⟨r3, s3, d3, q3, a3, b3⟩ := draw s2 6 q2 (by decide) (by decide)
  obtain ⟨r4, s4, d4, q4, a4, b4⟩ := draw s3 3 q3 (by decide) (by decide)
  obtain ⟨p, hp, ep⟩ := p_in r1 a1 b1
  obtain ⟨sz, z1, z2, es⟩ := sz_in r4 a4 b4
  obtain ⟨m, hm⟩ : ∃ m : Nat, 1 + r2 = (m : Nat) := ⟨(1 + r2).toNat, by omega⟩
  obtain ⟨n, hn⟩ : ∃ n : Nat, 1 + r3 = (n : Nat) := ⟨(1 + r3).toNat, by omega⟩
  have pp : 1 < p ∧ (p = 2 ∨ p = 3 ∨ p = 5 ∨ 6 ≤ p) := by
    simp only [List.mem_cons, List.not_mem_nil, or_false] at hp
    omega
  obtain ⟨A, s5, d5, q5, hA⟩ := ma_ok (m := m) (n := n) (sz := sz) q4 z1 z2 (by omega) (by omega) (by omega)
  obtain ⟨r, R, q, er, G⟩ := rank_ok (m := m) (n := n) (A := A) hp (by omega) (by omega) (by omega)
  obtain ⟨y7, e8⟩ := w8_ok (z := z) (s := s5) (x9 := none) (x10 := none) (x11 := none) pp.1 (by omega) (by omega) G hA
  obtain ⟨y9, y10, e9⟩ := w9_ok (z := z) (s := s5) (x7 := y7) (x11 := none) (by omega) (by omega) (by omega) G pp.2
  rw [law_split]
  refine run_at (ρ0 := [some z, none, none, none, none, none, none, none, none, none, none, none, none]) (ρ := lE z s5 p m n A r y7 y9 (y10.map D.int) (some (.tup (tD n m fun i j => A j i)))) rfl rfl ?_
  rw [seq_nx (ρ' := [some z, some s0, none, none, none, none, none, none, none, none, none, none, none]) (set_to st rfl)]
  rw [seq_nx (ρ' := [some z, some s1, some (.int (p : Nat)), none, none, none, none, none, none, none, none, none, none]) (set_to (chk_ok (ixl_ok rfl (callM_ok rfl (cons_ok rfl rfl rfl) rfl rfl d1 rfl) rfl ep) rfl) rfl)]
  rw [seq_nx (ρ' := [some z, some s2, some (.int (p : Nat)), some (.int (m : Nat)), none, none, none, none, none, none, none, none, none]) (set_to (op_ok rfl (callM_ok rfl (cons_ok rfl rfl rfl) rfl rfl d2 rfl) rfl (gAdd_i _ _)) (by rw [hm]; rfl))]
  rw [seq_nx (ρ' := [some z, some s3, some (.int (p : Nat)), some (.int (m : Nat)), some (.int (n : Nat)), none, none, none, none, none, none, none, none]) (set_to (op_ok rfl (callM_ok rfl (cons_ok rfl rfl rfl) rfl rfl d3 rfl) rfl (gAdd_i _ _)) (by rw [hn]; rfl))]
  rw [seq_nx (ρ' := [some z, some s5, some (.int (p : Nat)), some (.int (m : Nat)), some (.int (n : Nat)), some (.tup (tD m n A)), none, none, none, none, none, none, none]) (set_to (callM_ok (ρ1 := [some z, some s4, some (.int (p : Nat)), some (.int (m : Nat)), some (.int (n : Nat)), none, none, none, none, none, none, none, none]) rfl (cons_ok rfl (cons_ok rfl (cons_ok (ixl_ok (l := [.int 1, .int 6, .int (10 ^ 12)]) (o := true) (lst_ok (ds := [.int 1, .int 6, .int (10 ^ 12)]) (cons_ok rfl (cons_ok rfl (cons_ok (op_ok rfl rfl rfl (gPow_i (by decide))) rfl rfl) rfl) rfl) rfl) (callM_ok rfl (cons_ok rfl rfl rfl) rfl rfl d4 rfl) rfl es) rfl rfl) rfl) rfl) rfl rfl d5 rfl) rfl)]
  rw [seq_nx (ρ' := lE z s5 p m n A r none none none none) (set_to (call_ok (ds := [.tup (tD m n A), .int (p : Nat)]) (cons_ok rfl (cons_ok rfl rfl rfl) (safe_r1 _ _)) (frzL2 (congrArg D.tup (frz_tD _ _ _)) rfl) (noL2 (no_tD _ _ _) rfl) er) rfl)]
  rw [seq_nx w7_ok, seq_nx e8, seq_nx e9, seq_nx (w10_ok (by omega) (by omega))]
  exact w11_ok hp pp.1 (by omega) (by omega) G
end G07

end
open PySem PySem.W PyProof.Rows
set_option maxHeartbeats 0 in
theorem PySem.Challenge.cw_knotsooth_k07_ranks_modulo_primes_holds : PySem.Challenge.rw_knotsooth_k07_ranks_modulo_primes.Holds := by
  w_on; o_law; k_head; (case hw => w_witness2)
  k_fill
  refine L2.walk_ofB (l := PySem.Challenge.rw_knotsooth_k07_ranks_modulo_primes) (n := 63) (k := 7) (x := "script") (CX := fun _ => L2.CX0) (sp := fun w => Vl.spV _ 1 0 G07.F_law) rfl (by decide) rfl ⟨rfl, by decide, by decide⟩ (fun w h Y => PySem.W.kIn_of Y) ?F (fun w H a ns hl hb ho hs => Vl.law_sp G07.law_true H a ns hl hb ho hs) (fun _ _ _ _ _ h => h)
  case F =>
    intro w mg fa h KX G hmg
    refine' G07.all_mk KX G hmg ?a0 ?l0 ?c0 ?k0 ?a1 ?l1 ?c1 ?k1 ?a2 ?l2 ?c2 ?k2 ?a3 ?l3 ?c3 ?k3 ?a4 ?l4 ?c4 ?k4 ?a5 ?l5 ?c5 ?k5 ?a6 ?l6 ?c6 ?k6 ?a7 ?l7 ?c7 ?k7 ?a8 ?l8 ?c8 ?k8 ?a9 ?l9 ?c9 ?k9 ?a10 ?l10 ?c10 ?k10 ?z_bool ?z_int ?z_isinstance ?z_len ?z_list ?z_min ?z_range ?z_set ?z_sorted ?z_tuple ?z_zip 
    (case a0 => k_is); (case l0 => k_is); (case c0 => k_is); (case k0 => k_is); (case a1 => k_is); (case l1 => k_is); (case c1 => k_is); (case k1 => k_is); (case a2 => k_is); (case l2 => k_is); (case c2 => k_is); (case k2 => k_is); (case a3 => k_is); (case l3 => k_is); (case c3 => k_is); (case k3 => k_is); (case a4 => k_is); (case l4 => k_is); (case c4 => k_is); (case k4 => k_is); (case a5 => k_is); (case l5 => k_is); (case c5 => k_is); (case k5 => k_is); (case a6 => k_is); (case l6 => k_is); (case c6 => k_is); (case k6 => k_is); (case a7 => k_is); (case l7 => k_is); (case c7 => k_is); (case k7 => k_is); (case a8 => k_is); (case l8 => k_is); (case c8 => k_is); (case k8 => k_is); (case a9 => k_is); (case l9 => k_is); (case c9 => k_is); (case k9 => k_is); (case a10 => k_is); (case l10 => k_is); (case c10 => k_is); (case k10 => k_is); (case z_bool => k_is); (case z_int => k_is); (case z_isinstance => k_is); (case z_len => k_is); (case z_list => k_is); (case z_min => k_is); (case z_range => k_is); (case z_set => k_is); (case z_sorted => k_is); (case z_tuple => k_is); (case z_zip => k_is)
