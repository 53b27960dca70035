import PyProof.Rows.All
import Wide.All
import OpenK.AllK
import Wide.FinOn
import HandS.ForMost
import HandS.Exc
import HandS.HeadHook2
import HandS.Walk
import HandS.Flow
import HandS.IsInst
import HandS.FStr
import HandS.TupAny
import HandS.TupLe
import HandS.WordsExc
import HandS.CallSlots
import HandS.Zip
import HandS.ExcSuper
import HandS.ExcField
import HandS.TryMany
import KE.KExcSuper
import HandS.RaiseFrom
import PyProof.ReprRoads
import HandS.More
import HandS.SortInts
import HandS.Dict
import KE.GoesMore
import KE.GoesEnum
import HandS.HeadHook4
import HandS.HeadEnd
import HandS.Head2
import PySem.Challenge.RW_surelyhas_k01_lines_pages_and_words
set_option Elab.async false
set_option linter.all false
set_option maxRecDepth 100000
set_option maxHeartbeats 0
namespace FL
open PySem L2

/-! ### data by value, the store of what is changed -/
inductive D where
  | non | bl (b : Bool) | int (i : Int) | str (x : Str)
  | tup (ds : List D) | lst (ds : List D) | dct (kvs : List (Key × D)) | ins (c : Str) (fs : List (Str × D)) | obj (n : Nat) | scr (ns : List Int)
inductive Cell where
  | lst (ds : List D) | dct (kvs : List (Key × D)) | ins (c : Str) (fs : List (Str × D))
abbrev Store := List Cell
abbrev Env := List (Option D)
inductive Res (α : Type) where
  | ok (a : α) (μ : Store) | exc (c : Str) (d : D) (μ : Store) | bad
abbrev M (α : Type) := Store → Res α
def M.ret {α : Type} (a : α) : M α := fun μ => .ok a μ
def M.bnd {α β : Type} (m : M α) (f : α → M β) : M β := fun μ => match m μ with
  | .ok a μ' => f a μ'
  | .exc c d μ' => .exc c d μ'
  | .bad => .bad
def M.bad {α : Type} : M α := fun _ => .bad
instance : Monad M where
  pure := M.ret
  bind := M.bnd
abbrev EM := Env → M D

structure S3 where
  ι : Nat → Addr
  G : Hp
  μ : Store

/-- the classes of the program whose objects are data -/
def clsNames : List Str := ["Pattern", "Question", "Family", "Archive", "Reader", "Reading", "Walk", "Choosing", "Asking", "Keeping", "Memory", "Console"]
section
variable (K : PySem.W.Frag) (ι : Nat → Addr) (N : Nat) (G : Hp)
mutual
def RepI (v : V) : D → Prop
  | .non => v = .non
  | .bl b => v = .bl b
  | .int i => v = .int i
  | .str x => v = .str x
  | .tup ds => ∃ a xs, v = .ref a ∧ G a = some (.tup xs) ∧ RepIL xs ds
  | .lst ds => ∃ a xs, v = .ref a ∧ G a = some (.lst xs) ∧ RepIL xs ds
  | .dct kvs => ∃ a ps, v = .ref a ∧ G a = some (.dK ps) ∧ RepIK ps kvs
  | .ins c fs => ∃ a dx ps, v = .ref a ∧ G a = some (.ins (He.ga K c) dx ps) ∧ RepIF ps fs ∧ c ∈ clsNames ∧ He.ga K c ≠ 0
  | .obj n => n < N ∧ v = .ref (ι n)
  | .scr ns => ∃ a o, v = .ref a ∧ G a = some (.frz o (.lst (ns.map V.int)))
def RepIL (xs : List V) : List D → Prop
  | [] => xs = []
  | d :: ds => ∃ x r, xs = x :: r ∧ RepI x d ∧ RepIL r ds
def RepIK (ps : List (Key × V)) : List (Key × D) → Prop
  | [] => ps = []
  | (k, d) :: ds => ∃ x r, ps = (k, x) :: r ∧ RepI x d ∧ RepIK r ds
def RepIF (ps : List (Str × V)) : List (Str × D) → Prop
  | [] => ps = []
  | (k, d) :: ds => ∃ x r, ps = (k, x) :: r ∧ RepI x d ∧ RepIF r ds
end
end

/-- all that stood stands -/
def Sub (G G' : Hp) : Prop := ∀ a o, G a = some o → G' a = some o
theorem Sub.refl (G : Hp) : Sub G G := fun _ _ h => h
theorem Sub.trans {a b c : Hp} (x : Sub a b) (y : Sub b c) : Sub a c := fun p o h => y p o (x p o h)
theorem Sub.rd {G G' : Hp} {a : Addr} {u : HO} (s : Sub G G') (h : Rd G a u) : Rd G' a u := by
  rcases h with h | ⟨o, h⟩
  · exact .inl (s _ _ h)
  · exact .inr ⟨o, s _ _ h⟩

section
variable {K : PySem.W.Frag} {ι ι' : Nat → Addr} {N N' : Nat} {G G' : Hp}
mutual
theorem RepI.mono (hG : Sub G G') (hN : N ≤ N') (hι : ∀ n, n < N → ι' n = ι n) : ∀ (d : D) {v : V}, RepI K ι N G v d → RepI K ι' N' G' v d
  | .non, _, h => h
  | .bl _, _, h => h
  | .int _, _, h => h
  | .str _, _, h => h
  | .tup ds, _, ⟨a, xs, e, h, r⟩ => ⟨a, xs, e, hG _ _ h, RepIL.mono hG hN hι ds r⟩
  | .lst ds, _, ⟨a, xs, e, h, r⟩ => ⟨a, xs, e, hG _ _ h, RepIL.mono hG hN hι ds r⟩
  | .dct kvs, _, ⟨a, ps, e, h, r⟩ => ⟨a, ps, e, hG _ _ h, RepIK.mono hG hN hι kvs r⟩
  | .ins c fs, _, ⟨a, dx, ps, e, h, r, hc⟩ => ⟨a, dx, ps, e, hG _ _ h, RepIF.mono hG hN hι fs r, hc⟩
  | .obj n, _, ⟨h, e⟩ => ⟨Nat.lt_of_lt_of_le h hN, e.trans (by rw [hι n h])⟩
  | .scr _, _, ⟨a, o, e, h⟩ => ⟨a, o, e, hG _ _ h⟩
theorem RepIL.mono (hG : Sub G G') (hN : N ≤ N') (hι : ∀ n, n < N → ι' n = ι n) : ∀ (ds : List D) {xs : List V}, RepIL K ι N G xs ds → RepIL K ι' N' G' xs ds
  | [], _, h => h
  | d :: ds, _, ⟨x, r, e, h1, h2⟩ => ⟨x, r, e, RepI.mono hG hN hι d h1, RepIL.mono hG hN hι ds h2⟩
theorem RepIK.mono (hG : Sub G G') (hN : N ≤ N') (hι : ∀ n, n < N → ι' n = ι n) : ∀ (ds : List (Key × D)) {xs : List (Key × V)}, RepIK K ι N G xs ds → RepIK K ι' N' G' xs ds
  | [], _, h => h
  | (k, d) :: ds, _, ⟨x, r, e, h1, h2⟩ => ⟨x, r, e, RepI.mono hG hN hι d h1, RepIK.mono hG hN hι ds h2⟩
theorem RepIF.mono (hG : Sub G G') (hN : N ≤ N') (hι : ∀ n, n < N → ι' n = ι n) : ∀ (ds : List (Str × D)) {xs : List (Str × V)}, RepIF K ι N G xs ds → RepIF K ι' N' G' xs ds
  | [], _, h => h
  | (k, d) :: ds, _, ⟨x, r, e, h1, h2⟩ => ⟨x, r, e, RepI.mono hG hN hι d h1, RepIF.mono hG hN hι ds h2⟩
end
end

abbrev Rep (K : PySem.W.Frag) (S : S3) (v : V) (d : D) : Prop := RepI K S.ι S.μ.length S.G v d
abbrev RepL (K : PySem.W.Frag) (S : S3) (vs : List V) (ds : List D) : Prop := RepIL K S.ι S.μ.length S.G vs ds
def RepS (K : PySem.W.Frag) (S : S3) (σ : St) (ρ : Env) : Prop := σ.length = ρ.length ∧ ∀ (i : Nat) (d : D), ρ[i]? = some (some d) → ∃ v, σ[i]? = some (some v) ∧ Rep K S v d

def CellR (K : PySem.W.Frag) (S : S3) : HO → Cell → Prop
  | .lst xs, .lst ds => RepIL K S.ι S.μ.length S.G xs ds
  | .dK ps, .dct kvs => RepIK K S.ι S.μ.length S.G ps kvs
  | .ins C _ ps, .ins c fs => C = He.ga K c ∧ RepIF K S.ι S.μ.length S.G ps fs ∧ c ∈ clsNames ∧ He.ga K c ≠ 0
  | _, _ => False
structure Rel (K : PySem.W.Frag) (S : S3) (H : Hp) : Prop where
  cn : ∀ c ∈ clsNames, ∀ c' ∈ clsNames, He.ga K c ≠ 0 → He.ga K c = He.ga K c' → c = c'
  gh : Sub S.G H
  inj : ∀ i j, i < S.μ.length → j < S.μ.length → S.ι i = S.ι j → i = j
  cell : ∀ i c, S.μ[i]? = some c → S.G (S.ι i) = none ∧ ∃ o, H (S.ι i) = some o ∧ CellR K S o c
/-- from S, H to S', H' -/
structure Go (S : S3) (H : Hp) (S' : S3) (H' : Hp) : Prop where
  len : S.μ.length ≤ S'.μ.length
  ag : ∀ n, n < S.μ.length → S'.ι n = S.ι n
  gg : Sub S.G S'.G
  fr : ∀ p o, H p = some o → (∀ n, n < S.μ.length → S.ι n ≠ p) → H' p = some o
  st : ∀ p, H' p = none → H p = none
  nw : ∀ n, S.μ.length ≤ n → n < S'.μ.length → H (S'.ι n) = none
  gn : ∀ p o, S'.G p = some o → S.G p = none → H p = none
theorem Go.refl (S : S3) (H : Hp) : Go S H S H :=
  ⟨Nat.le_refl _, fun _ _ => rfl, Sub.refl _, fun _ _ h _ => h, fun _ h => h, fun n h1 h2 => absurd h1 (Nat.not_le_of_lt h2), fun p o h1 h2 => by rw [h1] at h2; cases h2⟩
theorem Go.trans {S S1 S2 : S3} {H H1 H2 : Hp} (a : Go S H S1 H1) (b : Go S1 H1 S2 H2) : Go S H S2 H2 where
  len := Nat.le_trans a.len b.len
  ag := fun n h => (b.ag n (Nat.lt_of_lt_of_le h a.len)).trans (a.ag n h)
  gg := a.gg.trans b.gg
  fr := fun p o h hn => b.fr p o (a.fr p o h hn) fun n hl e => by
    by_cases hs : n < S.μ.length
    · exact hn n hs ((a.ag n hs).symm.trans e)
    · have := a.nw n (Nat.le_of_not_lt hs) hl
      rw [e, h] at this; cases this
  st := fun p h => a.st p (b.st p h)
  nw := fun n h1 h2 => by
    by_cases hs : n < S1.μ.length
    · rw [b.ag n hs]; exact a.nw n h1 hs
    · exact a.st _ (b.nw n (Nat.le_of_not_lt hs) h2)
  gn := fun p o h1 h2 => by
    cases e : S1.G p with
    | some o' => exact a.gn p o' e h2
    | none => exact a.st _ (b.gn p o h1 e)

section
variable {K : PySem.W.Frag} {S S' S1 : S3} {H H' H1 : Hp} {σ : St} {ρ : Env} {v : V} {d : D} {vs : List V} {ds : List D}
theorem Rep.go (h : Rep K S v d) (g : Go S H S' H') : Rep K S' v d := RepI.mono g.gg g.len g.ag d h
theorem RepL.go (h : RepL K S vs ds) (g : Go S H S' H') : RepL K S' vs ds := RepIL.mono g.gg g.len g.ag ds h
theorem RepS.go (h : RepS K S σ ρ) (g : Go S H S' H') : RepS K S' σ ρ := ⟨h.1, fun i d e => let ⟨v, h1, h2⟩ := h.2 i d e; ⟨v, h1, Rep.go h2 g⟩⟩
theorem RepS.set {i : Nat} (h : RepS K S σ ρ) (r : Rep K S v d) : RepS K S (σ.set i (some v)) (ρ.set i (some d)) := by
  refine ⟨by simp [h.1], fun j e q => ?_⟩
  by_cases hj : i = j
  · subst hj
    by_cases hl : i < ρ.length
    · rw [List.getElem?_set_self hl] at q
      cases q
      exact ⟨v, List.getElem?_set_self (by rw [h.1]; exact hl), r⟩
    · rw [List.getElem?_eq_none (by simpa using hl)] at q; cases q
  · rw [List.getElem?_set_ne hj] at q
    obtain ⟨v', h1, h2⟩ := h.2 j e q
    exact ⟨v', by rw [List.getElem?_set_ne hj]; exact h1, h2⟩
theorem RepS.unset {i : Nat} (h : RepS K S σ ρ) : RepS K S (σ.set i none) (ρ.set i none) := by
  refine ⟨by simp [h.1], fun j e q => ?_⟩
  by_cases hj : i = j
  · subst hj
    by_cases hl : i < ρ.length
    · rw [List.getElem?_set_self hl] at q; cases q
    · rw [List.getElem?_eq_none (by simpa using hl)] at q; cases q
  · rw [List.getElem?_set_ne hj] at q
    obtain ⟨v', h1, h2⟩ := h.2 j e q
    exact ⟨v', by rw [List.getElem?_set_ne hj]; exact h1, h2⟩
/-- a new object that is never changed -/
def S3.put (S : S3) (p : Addr) (o : HO) : S3 := ⟨S.ι, upd S.G p o, S.μ⟩
theorem Rel.fresh (r : Rel K S H) {p : Addr} (h : H p = none) : S.G p = none := by
  cases e : S.G p with
  | none => rfl
  | some o => rw [r.gh p o e] at h; cases h
theorem Rel.notCell (r : Rel K S H) {p : Addr} (h : H p = none) : ∀ n, n < S.μ.length → S.ι n ≠ p := fun n hn e => by
  obtain ⟨_, o, ho, _⟩ := r.cell n (S.μ[n]) (List.getElem?_eq_getElem hn)
  rw [e, h] at ho; cases ho
theorem sub_upd {G : Hp} {p : Addr} {o : HO} (h : G p = none) : Sub G (upd G p o) := fun a u e => by rw [upd_ne (ne_of_none e h)]; exact e
theorem CellR.mono {o : HO} {c : Cell} (h : CellR K S o c) (hG : Sub S.G S'.G) (hN : S.μ.length ≤ S'.μ.length) (hι : ∀ n, n < S.μ.length → S'.ι n = S.ι n) : CellR K S' o c := by
  cases o with
  | lst xs => cases c with
    | lst ds => exact RepIL.mono hG hN hι ds h
    | dct _ => exact h.elim
    | ins _ _ => exact h.elim
  | dK ps => cases c with
    | dct ds => exact RepIK.mono hG hN hι ds h
    | lst _ => exact h.elim
    | ins _ _ => exact h.elim
  | ins C dx ps => cases c with
    | ins _ fs => exact ⟨h.1, RepIF.mono hG hN hι fs h.2.1, h.2.2⟩
    | lst _ => exact h.elim
    | dct _ => exact h.elim
  | _ => cases c <;> exact h.elim
theorem Rel.put (r : Rel K S H) {p : Addr} {o : HO} (h : H p = none) : Rel K (S.put p o) (upd H p o) where
  cn := r.cn
  gh := fun a u e => by
    by_cases ha : a = p
    · subst ha
      have e1 : upd S.G a o a = some u := e
      rw [upd_same] at e1
      rw [upd_same]; exact e1
    · have e1 : upd S.G p o a = some u := e
      rw [upd_ne ha] at e1
      rw [upd_ne ha]; exact r.gh a u e1
  inj := r.inj
  cell := fun i c e => by
    obtain ⟨h1, u, h2, h3⟩ := r.cell i c e
    have ne : S.ι i ≠ p := r.notCell h i (List.getElem?_eq_some_iff.mp e).1
    refine ⟨by show upd S.G p o (S.ι i) = none; rw [upd_ne ne]; exact h1, u, by show upd H p o (S.ι i) = some u; rw [upd_ne ne]; exact h2, h3.mono (sub_upd (r.fresh h)) (Nat.le_refl _) fun _ _ => rfl⟩
theorem Rel.goPut (r : Rel K S H) {p : Addr} {o : HO} (h : H p = none) : Go S H (S.put p o) (upd H p o) where
  len := Nat.le_refl _
  ag := fun _ _ => rfl
  gg := sub_upd (r.fresh h)
  fr := fun a u e _ => by rw [upd_ne (ne_of_none e h)]; exact e
  st := fun a e => by
    by_cases ha : a = p
    · subst ha; exact h
    · rw [upd_ne ha] at e; exact e
  nw := fun n h1 h2 => absurd h1 (Nat.not_le_of_lt h2)
  gn := fun a u e1 e2 => by
    by_cases ha : a = p
    · subst ha; exact h
    · have e3 : upd S.G p o a = some u := e1
      rw [upd_ne ha, e2] at e3; cases e3
/-- a new object that is kept in the store -/
def S3.new (S : S3) (p : Addr) (c : Cell) : S3 := ⟨fun n => if n = S.μ.length then p else S.ι n, S.G, S.μ ++ [c]⟩
theorem S3.new_old {p : Addr} {c : Cell} {n : Nat} (h : n < S.μ.length) : (S.new p c).ι n = S.ι n := if_neg (Nat.ne_of_lt h)
theorem S3.new_new {p : Addr} {c : Cell} : (S.new p c).ι S.μ.length = p := if_pos rfl
theorem Rel.new (r : Rel K S H) {p : Addr} {o : HO} {c : Cell} (h : H p = none) (hc : CellR K (S.new p c) o c) : Rel K (S.new p c) (upd H p o) where
  cn := r.cn
  gh := fun a u e => by rw [upd_ne (ne_of_none (r.gh a u e) h)]; exact r.gh a u e
  inj := fun i j hi hj e => by
    have li : i < S.μ.length + 1 := by simpa [S3.new] using hi
    have lj : j < S.μ.length + 1 := by simpa [S3.new] using hj
    by_cases h1 : i = S.μ.length
    · by_cases h2 : j = S.μ.length
      · rw [h1, h2]
      · have l : j < S.μ.length := by omega
        rw [h1, S3.new_new, S3.new_old l] at e
        exact absurd e.symm (r.notCell h j l)
    · have l : i < S.μ.length := by omega
      by_cases h2 : j = S.μ.length
      · rw [h2, S3.new_new, S3.new_old l] at e
        exact absurd e (r.notCell h i l)
      · have l' : j < S.μ.length := by omega
        rw [S3.new_old l, S3.new_old l'] at e
        exact r.inj i j l l' e
  cell := fun i c' e => by
    by_cases hi : i < S.μ.length
    · have e' : S.μ[i]? = some c' := by
        have e1 : (S.μ ++ [c])[i]? = some c' := e
        rw [List.getElem?_append_left hi] at e1; exact e1
      obtain ⟨h1, u, h2, h3⟩ := r.cell i c' e'
      rw [S3.new_old hi]
      exact ⟨h1, u, by rw [upd_ne (r.notCell h i hi)]; exact h2, h3.mono (Sub.refl _) (by show S.μ.length ≤ (S.μ ++ [c]).length; simp) fun n hn => S3.new_old hn⟩
    · have hl : i = S.μ.length := by
        have e1 : (S.μ ++ [c])[i]? = some c' := e
        have := (List.getElem?_eq_some_iff.mp e1).1
        simp at this; omega
      subst hl
      have ec : c = c' := by
        have e1 : (S.μ ++ [c])[S.μ.length]? = some c' := e
        simpa using e1
      subst ec
      rw [S3.new_new]
      exact ⟨r.fresh h, o, upd_same, hc⟩
theorem Rel.goNew (r : Rel K S H) {p : Addr} {o : HO} {c : Cell} (h : H p = none) : Go S H (S.new p c) (upd H p o) where
  len := by show S.μ.length ≤ (S.μ ++ [c]).length; simp
  ag := fun n hn => S3.new_old hn
  gg := Sub.refl _
  fr := fun a u e _ => by rw [upd_ne (ne_of_none e h)]; exact e
  st := fun a e => by
    by_cases ha : a = p
    · subst ha; exact h
    · rw [upd_ne ha] at e; exact e
  nw := fun n h1 h2 => by
    have : n = S.μ.length := by
      have : n < (S.μ ++ [c]).length := h2
      simp at this; omega
    subst this
    rw [S3.new_new]; exact h
  gn := fun a u e1 e2 => by
    have e3 : S.G a = some u := e1
    rw [e2] at e3; cases e3
/-- a cell is changed -/
def S3.upd (S : S3) (n : Nat) (c : Cell) : S3 := ⟨S.ι, S.G, S.μ.set n c⟩
theorem Rel.upd (r : Rel K S H) {n : Nat} {o : HO} {c : Cell} (hn : n < S.μ.length) (hc : CellR K S o c) : Rel K (S.upd n c) (L2.upd H (S.ι n) o) where
  cn := r.cn
  gh := fun a u e => by
    have e' : S.G a = some u := e
    have : a ≠ S.ι n := fun z => by
      have := (r.cell n _ (List.getElem?_eq_getElem hn)).1
      rw [← z, e'] at this; cases this
    rw [upd_ne this]; exact r.gh a u e'
  inj := fun i j hi hj e => r.inj i j (by simpa [S3.upd] using hi) (by simpa [S3.upd] using hj) e
  cell := fun i c' e => by
    have e1 : (S.μ.set n c)[i]? = some c' := e
    have hm : ∀ {o2 c2}, CellR K S o2 c2 → CellR K (S.upd n c) o2 c2 := fun {o2 c2} h => h.mono (S' := S.upd n c) (Sub.refl _) (by show S.μ.length ≤ (S.μ.set n c).length; simp) fun _ _ => rfl
    by_cases hi : n = i
    · subst hi
      rw [List.getElem?_set_self hn] at e1
      cases e1
      exact ⟨(r.cell n _ (List.getElem?_eq_getElem hn)).1, o, upd_same, hm hc⟩
    · rw [List.getElem?_set_ne hi] at e1
      obtain ⟨h1, u, h2, h3⟩ := r.cell i c' e1
      refine ⟨h1, u, ?_, hm h3⟩
      have hl := (List.getElem?_eq_some_iff.mp e1).1
      show L2.upd H (S.ι n) o (S.ι i) = some u
      rw [upd_ne fun z => hi (r.inj n i hn hl z.symm)]; exact h2
theorem Rel.goUpd (r : Rel K S H) {n : Nat} {o : HO} {c : Cell} (hn : n < S.μ.length) : Go S H (S.upd n c) (L2.upd H (S.ι n) o) where
  len := by show S.μ.length ≤ (S.μ.set n c).length; simp
  ag := fun _ _ => rfl
  gg := Sub.refl _
  fr := fun a u e hne => by rw [upd_ne fun z => hne n hn z.symm]; exact e
  st := fun a e => by
    by_cases ha : a = S.ι n
    · subst ha; rw [upd_same] at e; cases e
    · rw [upd_ne ha] at e; exact e
  nw := fun m h1 h2 => by
    have : m < (S.μ.set n c).length := h2
    simp at this
    omega
  gn := fun a u e1 e2 => by
    have e3 : S.G a = some u := e1
    rw [e2] at e3; cases e3
end

/-! ### results and readings -/
def excField (c : Str) : Str :=
  if c = "UnknownName" ∨ c = "NameTaken" then "name" else if c = "BadPattern" ∨ c = "BadText" then "at" else if c = "LimitExceeded" then "number" else if c = "BadCommand" then "line" else "value"
/-- what is wanted of an end -/
def PostX (K : PySem.W.Frag) (S : S3) (H : Hp) (c : Str) (d : D) (μ' : Store) (E : XK) : Prop :=
  ∀ S' H' dd v, S'.μ = μ' → Rel K S' H' → Go S H S' H' → S'.G dd = some (.xd [(excField c, v)]) → Rep K S' v d → E (.ref (He.ga K c)) (some dd) H'
def PostG {α β : Type} (K : PySem.W.Frag) (R : S3 → β → α → Prop) (S : S3) (H : Hp) (E : XK) (r : Res α) (Q : β → Hp → Prop) : Prop := match r with
  | .ok d μ' => ∀ S' H' v, S'.μ = μ' → Rel K S' H' → Go S H S' H' → R S' v d → Q v H'
  | .exc c d μ' => PostX K S H c d μ' E
  | .bad => False
section
variable {K : PySem.W.Frag} {S S' S1 : S3} {H H' H1 : Hp} {E E' : XK} {α α' β β' : Type} {R : S3 → β → α → Prop} {R' : S3 → β' → α' → Prop}
theorem PostX.go {c : Str} {d : D} {μ' : Store} (g : Go S H S1 H1) (p : PostX K S H c d μ' E) : PostX K S1 H1 c d μ' E :=
  fun S' H' dd v e r g' hx hr => p S' H' dd v e r (g.trans g') hx hr
theorem PostG.go {r : Res α} {Q : β → Hp → Prop} (g : Go S H S1 H1) (p : PostG K R S H E r Q) : PostG K R S1 H1 E r Q := by
  cases r with
  | ok d μ' => exact fun S' H' v e rl g' hr => p S' H' v e rl (g.trans g') hr
  | exc c d μ' => exact PostX.go g p
  | bad => exact p
theorem PostG.imp {r : Res α} {Q Q' : β → Hp → Prop} (p : PostG K R S H E r Q) (k : ∀ v H1, Q v H1 → Q' v H1) : PostG K R S H E r Q' := by
  cases r with
  | ok d μ' => exact fun S' H' v e rl g' hr => k _ _ (p S' H' v e rl g' hr)
  | exc c d μ' => exact p
  | bad => exact p
theorem PostG.bind {ma : M α} {k : α → M α'} {Q : β' → Hp → Prop} (p : PostG K R' S H E (ma.bnd k S.μ) Q) :
    PostG K R S H E (ma S.μ) (fun v H1 => ∃ S1 d, Rel K S1 H1 ∧ Go S H S1 H1 ∧ R S1 v d ∧ PostG K R' S1 H1 E (k d S1.μ) Q) := by
  unfold M.bnd at p
  revert p
  cases ma S.μ with
  | ok d μ' =>
    intro p S' H' v e r g hv
    subst e
    exact ⟨S', d, r, g, hv, p.go g⟩
  | exc c d μ' => exact fun p => p
  | bad => exact fun p => p
end
abbrev RB : S3 → Bool → Bool → Prop := fun _ b c => b = c
def tG {α β : Type} (K : PySem.W.Frag) (R : S3 → β → α → Prop) (W : WX) (m : Env → M α) : St → Hp → (β → Hp → Prop) → Prop := fun σ H Q => ∃ S ρ, Rel K S H ∧ RepS K S σ ρ ∧ PostG K R S H (fun c d H => W c d σ H) (m ρ S.μ) Q
/-- the readings: W, what is wanted of an exception at the slots -/
abbrev tE (K : PySem.W.Frag) (W : WX) (m : EM) : TE := tG K (Rep K) W m
abbrev tA (K : PySem.W.Frag) (W : WX) (m : Env → M (List D)) : TA := tG K (RepL K) W m
abbrev tB (K : PySem.W.Frag) (W : WX) (m : Env → M Bool) : TT := tG K RB W m
abbrev Post (K : PySem.W.Frag) (S : S3) (H : Hp) (E : XK) (r : Res D) (Q : VK) : Prop := PostG K (Rep K) S H E r Q
abbrev PostL (K : PySem.W.Frag) (S : S3) (H : Hp) (E : XK) (r : Res (List D)) (Q : List V → Hp → Prop) : Prop := PostG K (RepL K) S H E r Q
abbrev PostB (K : PySem.W.Frag) (S : S3) (H : Hp) (E : XK) (r : Res Bool) (Q : Bool → Hp → Prop) : Prop := PostG K RB S H E r Q
end FL

namespace FL
open PySem L2

/-! ### lifting -/
section
variable {X : Cx}
theorem _root_.L2.PE.imp {e : Expr} {t t' : TE} (h : PE X e t) (k : ∀ σ H Q, t' σ H Q → t σ H Q) : PE X e t' := ⟨fun pins s σ H Q I q => h.run pins s σ H Q I (k σ H Q q)⟩
theorem _root_.L2.PT.imp {e : Expr} {t t' : TT} (h : PT X e t) (k : ∀ σ H Q, t' σ H Q → t σ H Q) : PT X e t' := ⟨fun pins s σ H Q I q => h.run pins s σ H Q I (k σ H Q q)⟩
theorem _root_.L2.PW.imp {e : Expr} {t t' : TT} (h : PW X e t) (k : ∀ σ H Q, t' σ H Q → t σ H Q) : PW X e t' := ⟨fun wh pins s σ H Q I q => h.run wh pins s σ H Q I (k σ H Q q)⟩
theorem _root_.L2.PA.imp {e : List Expr} {t t' : TA} (h : PA X e t) (k : ∀ σ H Q, t' σ H Q → t σ H Q) : PA X e t' := ⟨fun pos pins s σ H Q I q => h.run pos pins s σ H Q I (k σ H Q q)⟩
theorem _root_.L2.PS.imp {e : Stmt} {t t' : TS} (h : PS X e t) (k : ∀ D σ H, t' D σ H → t D σ H) : PS X e t' := ⟨fun pins s σ H D I q => h.run pins s σ H D I (k D σ H q)⟩
theorem _root_.L2.PSs.imp {e : List Stmt} {t t' : TS} (h : PSs X e t) (k : ∀ D σ H, t' D σ H → t D σ H) : PSs X e t' := ⟨fun pins s σ H D I q => h.run pins s σ H D I (k D σ H q)⟩
end
abbrev atσ (W : WX) (σ : St) : XK := fun c d H => W c d σ H
/-! ### names, constants -/
def mVar (i : Nat) : EM := fun ρ μ => match ρ[i]? with
  | some (some d) => .ok d μ
  | _ => .bad
def mC (d : D) : EM := fun _ μ => .ok d μ
def ofO {α : Type} (o : Option α) : M α := fun μ => match o with
  | some a => .ok a μ
  | none => .bad
def ofS {α : Type} (f : Store → Option (α × Store)) : M α := fun μ => match f μ with
  | some (a, μ') => .ok a μ'
  | none => .bad
/-- a value is handed back, the store as it was -/
def Pok (K : PySem.W.Frag) (S : S3) (H : Hp) (d : D) (μ' : Store) (Q : VK) : Prop := ∀ S' H' v, S'.μ = μ' → Rel K S' H' → Go S H S' H' → Rep K S' v d → Q v H'
section
variable {K : PySem.W.Frag} {S : S3} {H : Hp} {Q : VK} {d : D}
theorem Pok.now (r : Rel K S H) (p : Pok K S H d S.μ Q) {v : V} (h : Rep K S v d) : Q v H := p S H v rfl r (Go.refl S H) h
/-- a new list, tuple, .. is handed back -/
theorem Pok.put (r : Rel K S H) (p : Pok K S H d S.μ Q) {a : Addr} {o : HO} (ha : H a = none) (h : Rep K (S.put a o) (.ref a) d) : Q (.ref a) (upd H a o) := p (S.put a o) _ _ rfl (r.put ha) (r.goPut ha) h
theorem put_self {a : Addr} {o : HO} : (S.put a o).G a = some o := upd_same
theorem RepL.put {xs : List V} {ds : List D} (r : Rel K S H) {a : Addr} {o : HO} (ha : H a = none) (h : RepL K S xs ds) : RepL K (S.put a o) xs ds := RepL.go h (r.goPut ha)
theorem Pok.lst {xs : List V} {ds : List D} (r : Rel K S H) (p : Pok K S H (.lst ds) S.μ Q) (h : RepL K S xs ds) {a : Addr} (ha : H a = none) : Q (.ref a) (upd H a (.lst xs)) :=
  p.put r ha ⟨a, xs, rfl, put_self, h.put r ha⟩
theorem Pok.tup {xs : List V} {ds : List D} (r : Rel K S H) (p : Pok K S H (.tup ds) S.μ Q) (h : RepL K S xs ds) {a : Addr} (ha : H a = none) : Q (.ref a) (upd H a (.tup xs)) :=
  p.put r ha ⟨a, xs, rfl, put_self, h.put r ha⟩
end
section
variable {X : Cx} {W : WX} {pos : Pos}
theorem fe_var (i : Nat) {x : Str} (hN : X.N[i]? = some x := by rfl) (hv : Vis X.env.scope x := by first | exact Or.inl rfl | exact Or.inr (Or.inl rfl) | exact Or.inr (Or.inr rfl)) (hd : (x == ("__debug__" : Str)) = false := by decide)
    (hcd : (x == ("__classdict__" : Str)) = false := by decide) : PE X (.Name x pos) (tE X.K W (mVar i)) := by
  refine (pe_var hN hv hd hcd).imp fun σ H Q h => ?_
  obtain ⟨S, ρ, r, rs, p⟩ := h
  unfold mVar at p
  cases e : ρ[i]? with
  | none => rw [e] at p; exact p.elim
  | some o =>
    rw [e] at p
    cases o with
    | none => exact p.elim
    | some d =>
      obtain ⟨v, h1, h2⟩ := rs.2 i d e
      exact ⟨v, h1, p S H v rfl r (Go.refl S H) h2⟩
theorem fe_c {e : Expr} {v : V} {d : D} (h : PE X e (tC v)) (hr : ∀ S, Rep X.K S v d) : PE X e (tE X.K W (mC d)) := by
  refine h.imp fun σ H Q h => ?_
  obtain ⟨S, ρ, r, rs, p⟩ := h
  exact p S H v rfl r (Go.refl S H) (hr S)
theorem fe_int {i : Int} {j : Nat} : PE X (.Constant (.int i) j pos) (tE X.K W (mC (.int i))) := fe_c pe_int fun _ => rfl
theorem fe_bl {b : Bool} {j : Nat} : PE X (.Constant (.bool b) j pos) (tE X.K W (mC (.bl b))) := fe_c pe_bl fun _ => rfl
theorem fe_str {x : Str} {j : Nat} : PE X (.Constant (.str x) j pos) (tE X.K W (mC (.str x))) := fe_c pe_str fun _ => rfl
theorem fe_non {j : Nat} : PE X (.Constant .none j pos) (tE X.K W (mC .non)) := fe_c pe_non fun _ => rfl
theorem fe_gInt {x : Str} {i : Int} {t : Tok} (hg : Gl X x) (hm : X.mg x = some (.int i t)) (hd : (x == ("__debug__" : Str)) = false := by decide) : PE X (.Name x pos) (tE X.K W (mC (.int i))) := fe_c (pe_glob (v := .int i) hg hm ⟨_, rfl⟩ hd) fun _ => rfl
theorem fe_gStr {x z : Str} {t : Tok} (hg : Gl X x) (hm : X.mg x = some (.str z t)) (hd : (x == ("__debug__" : Str)) = false := by decide) : PE X (.Name x pos) (tE X.K W (mC (.str z))) := fe_c (pe_glob (v := .str z) hg hm ⟨_, rfl⟩ hd) fun _ => rfl
end

/-! ### operators -/
def r2D (K : PySem.W.Frag) (f : Store → D → D → Option D) : R2 := fun x y H Q => ∃ S dx dy d, Rel K S H ∧ Rep K S x dx ∧ Rep K S y dy ∧ f S.μ dx dy = some d ∧ Pok K S H d S.μ Q
def mOp (f : Store → D → D → Option D) (ma mb : EM) : EM := fun ρ => (ma ρ).bnd fun x => (mb ρ).bnd fun y μ => match f μ x y with
  | some d => .ok d μ
  | none => .bad
section
variable {X : Cx} {W : WX} {pos : Pos} {a b : Expr} {ma mb : EM} {f : Store → D → D → Option D}
theorem mOp_read {σ : St} {H : Hp} {Q : VK} (h : tE X.K W (mOp f ma mb) σ H Q) : tOp (r2D X.K f) (tE X.K W ma) (tE X.K W mb) σ H Q := by
  obtain ⟨S, ρ, r, rs, p⟩ := h
  refine ⟨S, ρ, r, rs, p.bind.imp fun v H1 ⟨S1, d, r1, g1, hv, p1⟩ => ?_⟩
  refine ⟨S1, ρ, r1, rs.go g1, p1.bind.imp fun v2 H2 ⟨S2, d2, r2, g2, hv2, p2⟩ => ?_⟩
  refine ⟨S2, d, d2, ?_⟩
  cases e : f S2.μ d d2 with
  | none => rw [e] at p2; exact p2.elim
  | some d3 => rw [e] at p2; exact ⟨d3, r2, Rep.go hv g2, hv2, rfl, p2⟩
theorem fe_op {op : Operator} (ho : OpR X (binaryOp op) (r2D X.K f)) (ha : PE X a (tE X.K W ma)) (hb : PE X b (tE X.K W mb)) : PE X (.BinOp a op b pos) (tE X.K W (mOp f ma mb)) :=
  (pe_op ho ha hb).imp fun _ _ _ h => mOp_read h
theorem fe_cmp {op : CmpOp} (ho : OpR X (compareOp op) (r2D X.K f)) (ha : PE X a (tE X.K W ma)) (hb : PE X b (tE X.K W mb)) (hm : behindInMarks op b = false := by first | exact nomark _ | rfl) : PE X (.Compare a [op] [b] pos) (tE X.K W (mOp f ma mb)) :=
  (pe_cmpR ho ha hb hm).imp fun _ _ _ h => mOp_read h
end
end FL

namespace FL
open PySem L2

/-! ### lists of represented values -/
section
variable {K : PySem.W.Frag} {S : S3} {H : Hp}
theorem RepL.nil_iff {xs : List V} : RepL K S xs [] ↔ xs = [] := Iff.rfl
theorem RepL.cons_iff {xs : List V} {d : D} {ds : List D} : RepL K S xs (d :: ds) ↔ ∃ x r, xs = x :: r ∧ Rep K S x d ∧ RepL K S r ds := Iff.rfl
theorem RepL.cons {x : V} {xs : List V} {d : D} {ds : List D} (h : Rep K S x d) (t : RepL K S xs ds) : RepL K S (x :: xs) (d :: ds) := ⟨x, xs, rfl, h, t⟩
theorem RepL.length : ∀ {ds : List D} {xs : List V}, RepL K S xs ds → xs.length = ds.length
  | [], _, h => by rw [show _ = [] from h]; rfl
  | d :: ds, _, ⟨x, r, e, _, h⟩ => by rw [e, List.length_cons, List.length_cons, RepL.length h]
theorem RepL.append : ∀ {ds es : List D} {xs ys : List V}, RepL K S xs ds → RepL K S ys es → RepL K S (xs ++ ys) (ds ++ es)
  | [], es, xs, ys, h, k => by rw [show xs = [] from h]; exact k
  | d :: ds, es, _, ys, ⟨x, r, e, h1, h2⟩, k => by subst e; exact ⟨x, r ++ ys, rfl, h1, RepL.append h2 k⟩
theorem RepL.get : ∀ {ds : List D} {xs : List V} {i : Nat} {x : V}, RepL K S xs ds → xs[i]? = some x → ∃ d, ds[i]? = some d ∧ Rep K S x d
  | [], xs, i, x, h, e => by rw [show xs = [] from h] at e; simp at e
  | d :: ds, _, 0, x, ⟨y, r, rfl, h1, h2⟩, e => by simp at e; subst e; exact ⟨d, rfl, h1⟩
  | d :: ds, _, i + 1, x, ⟨y, r, rfl, h1, h2⟩, e => by
    obtain ⟨d', q1, q2⟩ := RepL.get (i := i) h2 (by simpa using e)
    exact ⟨d', by simpa using q1, q2⟩
theorem RepL.getD : ∀ {ds : List D} {xs : List V} {i : Nat} {d : D}, RepL K S xs ds → ds[i]? = some d → ∃ x, xs[i]? = some x ∧ Rep K S x d
  | [], xs, i, x, h, e => by simp at e
  | d :: ds, _, 0, x, ⟨y, r, rfl, h1, h2⟩, e => by simp at e; subst e; exact ⟨y, rfl, h1⟩
  | d :: ds, _, i + 1, x, ⟨y, r, rfl, h1, h2⟩, e => by
    obtain ⟨d', q1, q2⟩ := RepL.getD (i := i) h2 (by simpa using e)
    exact ⟨d', by simpa using q1, q2⟩
theorem RepL.take : ∀ {ds : List D} {xs : List V} (n : Nat), RepL K S xs ds → RepL K S (xs.take n) (ds.take n)
  | _, _, 0, _ => by rw [List.take_zero, List.take_zero]; rfl
  | [], xs, n + 1, h => by rw [show xs = [] from h]; rfl
  | d :: ds, _, n + 1, ⟨x, r, e, h1, h2⟩ => by subst e; exact ⟨x, r.take n, rfl, h1, RepL.take n h2⟩
theorem RepL.drop : ∀ {ds : List D} {xs : List V} (n : Nat), RepL K S xs ds → RepL K S (xs.drop n) (ds.drop n)
  | _, _, 0, h => h
  | [], xs, n + 1, h => by rw [show xs = [] from h]; rfl
  | d :: ds, _, n + 1, ⟨x, r, e, h1, h2⟩ => by subst e; exact RepL.drop n h2
theorem RepL.set : ∀ {ds : List D} {xs : List V} {x : V} {d : D} (n : Nat), RepL K S xs ds → Rep K S x d → RepL K S (xs.set n x) (ds.set n d)
  | [], xs, x, d, n, h, _ => by rw [show xs = [] from h]; rfl
  | d :: ds, _, x, d', 0, ⟨y, r, e, h1, h2⟩, k => by subst e; exact ⟨x, r, rfl, k, h2⟩
  | d :: ds, _, x, d', n + 1, ⟨y, r, e, h1, h2⟩, k => by subst e; exact ⟨y, r.set n x, rfl, h1, RepL.set n h2 k⟩
theorem RepL.strs : ∀ {ss : List Str} {xs : List V}, RepL K S xs (ss.map D.str) → xs = ss.map V.str
  | [], _, h => h
  | s :: ss, _, ⟨x, r, e, h1, h2⟩ => by rw [e, show x = V.str s from h1, RepL.strs h2]; rfl
theorem RepL.ints : ∀ {ss : List Int} {xs : List V}, RepL K S xs (ss.map D.int) → xs = ss.map V.int
  | [], _, h => h
  | s :: ss, _, ⟨x, r, e, h1, h2⟩ => by rw [e, show x = V.int s from h1, RepL.ints h2]; rfl
theorem RepL.bls : ∀ {ss : List Bool} {xs : List V}, RepL K S xs (ss.map D.bl) → xs = ss.map V.bl
  | [], _, h => h
  | s :: ss, _, ⟨x, r, e, h1, h2⟩ => by rw [e, show x = V.bl s from h1, RepL.bls h2]; rfl
theorem RepL.mkInts (ns : List Int) : RepL K S (ns.map V.int) (ns.map D.int) := by
  induction ns with
  | nil => rfl
  | cons n ns ih => exact ⟨_, _, rfl, rfl, ih⟩
theorem RepL.mkStrs (ns : List Str) : RepL K S (ns.map V.str) (ns.map D.str) := by
  induction ns with
  | nil => rfl
  | cons n ns ih => exact ⟨_, _, rfl, rfl, ih⟩
theorem RepL.cut {ds : List D} {xs : List V} (h : RepL K S xs ds) (lo hi : Option Int) : RepL K S (cutV xs lo hi) ((ds.drop (HT.sIx ds.length 0 lo)).take (HT.sIx ds.length ds.length hi - HT.sIx ds.length 0 lo)) := by
  unfold cutV
  rw [h.length]
  exact (h.drop _).take _
end

/-! ### views -/
def cellL (μ : Store) (n : Nat) : Option (List D) := match μ[n]? with
  | some (.lst ds) => some ds
  | _ => none
theorem cellL_some {μ : Store} {n : Nat} {ds : List D} (h : cellL μ n = some ds) : μ[n]? = some (.lst ds) := by
  unfold cellL at h
  split at h
  · cases h; assumption
  · cases h
def asL (μ : Store) : D → Option (List D)
  | .lst ds => some ds
  | .obj n => cellL μ n
  | _ => none
/-- .. as it is read: the script, too -/
def asLR (μ : Store) : D → Option (List D)
  | .scr ns => some (ns.map D.int)
  | d => asL μ d
def asI : D → Option Int
  | .int i => some i
  | _ => none
def asS : D → Option Str
  | .str i => some i
  | _ => none
def asB : D → Option Bool
  | .bl i => some i
  | _ => none
/-- all, or none -/
def seqO {α : Type} : List (Option α) → Option (List α)
  | [] => some []
  | some a :: r => (match seqO r with
    | some l => some (a :: l)
    | none => none)
  | none :: _ => none
def flatD : D → Bool
  | .non => true
  | .bl _ => true
  | .int _ => true
  | .str _ => true
  | _ => false
section
variable {K : PySem.W.Frag} {S : S3} {H : Hp}
theorem lst_at (r : Rel K S H) {v : V} {d : D} {ds : List D} (h : Rep K S v d) (e : asL S.μ d = some ds) : ∃ a xs, v = .ref a ∧ H a = some (.lst xs) ∧ RepL K S xs ds := by
  cases d with
  | lst es =>
    obtain ⟨a, xs, e1, h1, h2⟩ := h
    cases e
    exact ⟨a, xs, e1, r.gh _ _ h1, h2⟩
  | obj n =>
    obtain ⟨hn, e1⟩ := h
    have q : S.μ[n]? = some (.lst ds) := cellL_some e
    obtain ⟨_, o, ho, hc⟩ := r.cell n _ q
    cases o with
    | lst xs => exact ⟨_, xs, e1, ho, hc⟩
    | _ => exact hc.elim
  | _ => cases e
theorem tup_at (r : Rel K S H) {v : V} {ds : List D} (h : Rep K S v (.tup ds)) : ∃ a xs, v = .ref a ∧ H a = some (.tup xs) ∧ RepL K S xs ds := by
  obtain ⟨a, xs, e1, h1, h2⟩ := h
  exact ⟨a, xs, e1, r.gh _ _ h1, h2⟩
theorem sqL_of {a : Addr} {xs : List V} (h : H a = some (.lst xs)) : SqL K H a xs := .inl (.inl h)
theorem sqT_of {a : Addr} {xs : List V} (h : H a = some (.tup xs)) : SqT K H a xs := .inl (.inl h)
theorem lstR_at (r : Rel K S H) {v : V} {d : D} {ds : List D} (h : Rep K S v d) (e : asLR S.μ d = some ds) : ∃ a xs, v = .ref a ∧ SqL K H a xs ∧ RepL K S xs ds := by
  have other : asL S.μ d = some ds → ∃ a xs, v = .ref a ∧ SqL K H a xs ∧ RepL K S xs ds := fun e => by
    obtain ⟨a, xs, e1, h1, h2⟩ := lst_at r h e
    exact ⟨a, xs, e1, sqL_of h1, h2⟩
  cases d with
  | scr ns =>
    obtain ⟨a, o, e1, h1⟩ := h
    cases e
    exact ⟨a, _, e1, .inl (.inr ⟨o, r.gh _ _ h1⟩), RepL.mkInts ns⟩
  | _ => exact other e
theorem flat_rep {v : V} {d : D} (h : Rep K S v d) (f : flatD d = true) : flatV v = true := by
  cases d with
  | non => rw [show v = V.non from h]; rfl
  | bl b => rw [show v = V.bl b from h]; rfl
  | int b => rw [show v = V.int b from h]; rfl
  | str b => rw [show v = V.str b from h]; rfl
  | _ => cases f
theorem flats_rep : ∀ {ds : List D} {xs : List V}, RepL K S xs ds → ds.all flatD = true → xs.all flatV = true
  | [], _, h, _ => by rw [show _ = [] from h]; rfl
  | d :: ds, _, ⟨x, r, e, h1, h2⟩, f => by
    subst e
    simp only [List.all_cons, Bool.and_eq_true] at f ⊢
    exact ⟨flat_rep h1 f.1, flats_rep h2 f.2⟩
end

/-! ### equality -/
def viewO (n : Nat) : Option (List D) → D
  | some ds => .lst ds
  | none => .obj n
def viewD (μ : Store) : D → D
  | .obj n => viewO n (cellL μ n)
  | d => d
/-- == of data: numbers, texts, None, lists and tuples of such -/
def dEqB (μ : Store) : Nat → D → D → Option Bool
  | 0, _, _ => none
  | n + 1, x, y => match viewD μ x, viewD μ y with
    | .non, .non => some true
    | .bl a, .bl b => some (a == b)
    | .bl a, .int b => some ((if a then 1 else 0) == b)
    | .int a, .bl b => some (a == (if b then 1 else 0))
    | .int a, .int b => some (a == b)
    | .str a, .str b => some (a == b)
    | .lst xs, .lst ys => if xs.length = ys.length then (match seqO (List.zipWith (dEqB μ n) xs ys) with
      | some bs => some (bs.all id)
      | none => none) else some false
    | .tup xs, .tup ys => (match seqO (List.zipWith (dEqB μ n) xs ys) with
      | some bs => some (bs.all id && xs.length == ys.length)
      | none => none)
    | .lst _, .tup _ => some false
    | .tup _, .lst _ => some false
    | .lst _, .non => some false | .lst _, .bl _ => some false | .lst _, .int _ => some false | .lst _, .str _ => some false
    | .tup _, .non => some false | .tup _, .bl _ => some false | .tup _, .int _ => some false | .tup _, .str _ => some false
    | .non, .lst _ => some false | .bl _, .lst _ => some false | .int _, .lst _ => some false | .str _, .lst _ => some false
    | .non, .tup _ => some false | .bl _, .tup _ => some false | .int _, .tup _ => some false | .str _, .tup _ => some false
    | .non, .bl _ => some false | .non, .int _ => some false | .non, .str _ => some false
    | .bl _, .non => some false | .bl _, .str _ => some false
    | .int _, .non => some false | .int _, .str _ => some false
    | .str _, .non => some false | .str _, .bl _ => some false | .str _, .int _ => some false
    | _, _ => none
theorem seqO_get {α : Type} : ∀ {l : List (Option α)} {bs : List α}, seqO l = some bs → bs.length = l.length ∧ ∀ (i : Nat) b, bs[i]? = some b → l[i]? = some (some b)
  | [], bs, h => by cases h; exact ⟨rfl, fun i b e => by simp at e⟩
  | none :: _, _, h => by cases h
  | some a :: r, bs, h => by
    unfold seqO at h
    cases e : seqO r with
    | none => rw [e] at h; cases h
    | some l =>
      rw [e] at h
      cases h
      obtain ⟨h1, h2⟩ := seqO_get e
      refine ⟨by simp [h1], fun i b q => ?_⟩
      cases i with
      | zero => simpa using q
      | succ i => simpa using h2 i b (by simpa using q)
section
variable {K : PySem.W.Frag} {S : S3} {H : Hp}
/-- a value stands for one datum -/
theorem view_at (r : Rel K S H) {v : V} {d : D} (h : Rep K S v d) : (∀ ds, viewD S.μ d = .lst ds → ∃ a xs, v = .ref a ∧ H a = some (.lst xs) ∧ RepL K S xs ds) ∧ (∀ ds, viewD S.μ d = .tup ds → ∃ a xs, v = .ref a ∧ H a = some (.tup xs) ∧ RepL K S xs ds) ∧
    (viewD S.μ d = .non → v = .non) ∧ (∀ b, viewD S.μ d = .bl b → v = .bl b) ∧ (∀ b, viewD S.μ d = .int b → v = .int b) ∧ ∀ b, viewD S.μ d = .str b → v = .str b := by
  cases d with
  | obj n =>
    have e0 : viewD S.μ (.obj n) = viewO n (cellL S.μ n) := rfl
    rw [e0]
    cases q : cellL S.μ n with
    | none => exact ⟨fun _ e => (nomatch e), fun _ e => (nomatch e), fun e => (nomatch e), fun _ e => (nomatch e), fun _ e => (nomatch e), fun _ e => (nomatch e)⟩
    | some es => exact ⟨fun ds e => by cases e; exact lst_at r h q, fun _ e => (nomatch e), fun e => (nomatch e), fun _ e => (nomatch e), fun _ e => (nomatch e), fun _ e => (nomatch e)⟩
  | lst es => exact ⟨fun ds e => by cases e; exact lst_at r h rfl, fun _ e => (nomatch e), fun e => (nomatch e), fun _ e => (nomatch e), fun _ e => (nomatch e), fun _ e => (nomatch e)⟩
  | tup es => exact ⟨fun _ e => (nomatch e), fun ds e => by cases e; exact tup_at r h, fun e => (nomatch e), fun _ e => (nomatch e), fun _ e => (nomatch e), fun _ e => (nomatch e)⟩
  | non => exact ⟨fun _ e => (nomatch e), fun _ e => (nomatch e), fun _ => h, fun _ e => (nomatch e), fun _ e => (nomatch e), fun _ e => (nomatch e)⟩
  | bl b => exact ⟨fun _ e => (nomatch e), fun _ e => (nomatch e), fun e => (nomatch e), fun _ e => by cases e; exact h, fun _ e => (nomatch e), fun _ e => (nomatch e)⟩
  | int b => exact ⟨fun _ e => (nomatch e), fun _ e => (nomatch e), fun e => (nomatch e), fun _ e => (nomatch e), fun _ e => by cases e; exact h, fun _ e => (nomatch e)⟩
  | str b => exact ⟨fun _ e => (nomatch e), fun _ e => (nomatch e), fun e => (nomatch e), fun _ e => (nomatch e), fun _ e => (nomatch e), fun _ e => by cases e; exact h⟩
  | dct b => exact ⟨fun _ e => (nomatch e), fun _ e => (nomatch e), fun e => (nomatch e), fun _ e => (nomatch e), fun _ e => (nomatch e), fun _ e => (nomatch e)⟩
  | ins b c => exact ⟨fun _ e => (nomatch e), fun _ e => (nomatch e), fun e => (nomatch e), fun _ e => (nomatch e), fun _ e => (nomatch e), fun _ e => (nomatch e)⟩
  | scr b => exact ⟨fun _ e => (nomatch e), fun _ e => (nomatch e), fun e => (nomatch e), fun _ e => (nomatch e), fun _ e => (nomatch e), fun _ e => (nomatch e)⟩
end
end FL

namespace FL
open PySem L2
/-! ### a value stands for one datum -/
section
variable {K : PySem.W.Frag} {S : S3} {H : Hp}
theorem obj_noG (r : Rel K S H) {n : Nat} (h : n < S.μ.length) : S.G (S.ι n) = none := (r.cell n _ (List.getElem?_eq_getElem h)).1
end
/-! ### a value stands for one datum -/
section
variable {K : PySem.W.Frag} {S : S3} {H : Hp}
mutual
theorem Rep.inj (r : Rel K S H) : ∀ (d d' : D) {v : V}, Rep K S v d → Rep K S v d' → d = d'
  | .non, d', v, h, h' => by
    have e : v = .non := h
    subst e
    cases d' with
    | non => rfl
    | tup _ => obtain ⟨_, _, e, _⟩ := h'; cases e
    | lst _ => obtain ⟨_, _, e, _⟩ := h'; cases e
    | dct _ => obtain ⟨_, _, e, _⟩ := h'; cases e
    | ins _ _ => obtain ⟨_, _, _, e, _⟩ := h'; cases e
    | obj _ => obtain ⟨_, e⟩ := h'; cases e
    | scr _ => obtain ⟨_, _, e, _⟩ := h'; cases e
    | _ => cases h'
  | .bl b, d', v, h, h' => by
    have e : v = .bl b := h
    subst e
    cases d' with
    | bl c => cases (show V.bl b = V.bl c from h'); rfl
    | tup _ => obtain ⟨_, _, e, _⟩ := h'; cases e
    | lst _ => obtain ⟨_, _, e, _⟩ := h'; cases e
    | dct _ => obtain ⟨_, _, e, _⟩ := h'; cases e
    | ins _ _ => obtain ⟨_, _, _, e, _⟩ := h'; cases e
    | obj _ => obtain ⟨_, e⟩ := h'; cases e
    | scr _ => obtain ⟨_, _, e, _⟩ := h'; cases e
    | _ => cases h'
  | .int b, d', v, h, h' => by
    have e : v = .int b := h
    subst e
    cases d' with
    | int c => cases (show V.int b = V.int c from h'); rfl
    | tup _ => obtain ⟨_, _, e, _⟩ := h'; cases e
    | lst _ => obtain ⟨_, _, e, _⟩ := h'; cases e
    | dct _ => obtain ⟨_, _, e, _⟩ := h'; cases e
    | ins _ _ => obtain ⟨_, _, _, e, _⟩ := h'; cases e
    | obj _ => obtain ⟨_, e⟩ := h'; cases e
    | scr _ => obtain ⟨_, _, e, _⟩ := h'; cases e
    | _ => cases h'
  | .str b, d', v, h, h' => by
    have e : v = .str b := h
    subst e
    cases d' with
    | str c => cases (show V.str b = V.str c from h'); rfl
    | tup _ => obtain ⟨_, _, e, _⟩ := h'; cases e
    | lst _ => obtain ⟨_, _, e, _⟩ := h'; cases e
    | dct _ => obtain ⟨_, _, e, _⟩ := h'; cases e
    | ins _ _ => obtain ⟨_, _, _, e, _⟩ := h'; cases e
    | obj _ => obtain ⟨_, e⟩ := h'; cases e
    | scr _ => obtain ⟨_, _, e, _⟩ := h'; cases e
    | _ => cases h'
  | .tup ds, d', v, ⟨a, xs, e, h1, h2⟩, h' => by
    subst e
    cases d' with
    | tup ds' =>
      obtain ⟨a', xs', e', k1, k2⟩ := h'
      cases e'
      rw [h1] at k1
      cases k1
      rw [RepL.inj r ds ds' h2 k2]
    | lst ds' =>
      obtain ⟨a', xs', e', k1, k2⟩ := h'
      cases e'
      rw [h1] at k1
      cases k1
    | dct kvs' =>
      obtain ⟨a', ps', e', k1, k2⟩ := h'
      cases e'
      rw [h1] at k1
      cases k1
    | ins c' fs' =>
      obtain ⟨a', dx', ps', e', k1, k2, hc'⟩ := h'
      cases e'
      rw [h1] at k1
      cases k1
    | obj n =>
      obtain ⟨hn, e⟩ := h'
      cases e
      rw [obj_noG r hn] at h1; cases h1
    | scr _ => obtain ⟨_, _, e, k1⟩ := h'; cases e; rw [h1] at k1; cases k1
    | _ => cases h'
  | .lst ds, d', v, ⟨a, xs, e, h1, h2⟩, h' => by
    subst e
    cases d' with
    | tup ds' =>
      obtain ⟨a', xs', e', k1, k2⟩ := h'
      cases e'
      rw [h1] at k1
      cases k1
    | lst ds' =>
      obtain ⟨a', xs', e', k1, k2⟩ := h'
      cases e'
      rw [h1] at k1
      cases k1
      rw [RepL.inj r ds ds' h2 k2]
    | dct kvs' =>
      obtain ⟨a', ps', e', k1, k2⟩ := h'
      cases e'
      rw [h1] at k1
      cases k1
    | ins c' fs' =>
      obtain ⟨a', dx', ps', e', k1, k2, hc'⟩ := h'
      cases e'
      rw [h1] at k1
      cases k1
    | obj n =>
      obtain ⟨hn, e⟩ := h'
      cases e
      rw [obj_noG r hn] at h1; cases h1
    | scr _ => obtain ⟨_, _, e, k1⟩ := h'; cases e; rw [h1] at k1; cases k1
    | _ => cases h'
  | .dct kvs, d', v, ⟨a, ps, e, h1, h2⟩, h' => by
    subst e
    cases d' with
    | tup ds' =>
      obtain ⟨a', xs', e', k1, k2⟩ := h'
      cases e'
      rw [h1] at k1
      cases k1
    | lst ds' =>
      obtain ⟨a', xs', e', k1, k2⟩ := h'
      cases e'
      rw [h1] at k1
      cases k1
    | dct kvs' =>
      obtain ⟨a', ps', e', k1, k2⟩ := h'
      cases e'
      rw [h1] at k1
      cases k1
      rw [RepK.inj r kvs kvs' h2 k2]
    | ins c' fs' =>
      obtain ⟨a', dx', ps', e', k1, k2, hc'⟩ := h'
      cases e'
      rw [h1] at k1
      cases k1
    | obj n =>
      obtain ⟨hn, e⟩ := h'
      cases e
      rw [obj_noG r hn] at h1; cases h1
    | scr _ => obtain ⟨_, _, e, k1⟩ := h'; cases e; rw [h1] at k1; cases k1
    | _ => cases h'
  | .ins c fs, d', v, ⟨a, dx, ps, e, h1, h2, hc⟩, h' => by
    subst e
    cases d' with
    | tup ds' =>
      obtain ⟨a', xs', e', k1, k2⟩ := h'
      cases e'
      rw [h1] at k1
      cases k1
    | lst ds' =>
      obtain ⟨a', xs', e', k1, k2⟩ := h'
      cases e'
      rw [h1] at k1
      cases k1
    | dct kvs' =>
      obtain ⟨a', ps', e', k1, k2⟩ := h'
      cases e'
      rw [h1] at k1
      cases k1
    | ins c' fs' =>
      obtain ⟨a', dx', ps', e', k1, k2, hc'⟩ := h'
      cases e'
      rw [h1] at k1
      have eC : He.ga K c = He.ga K c' := by injection k1 with z; injection z
      have eP : ps = ps' := by injection k1 with z; injection z
      have ec := r.cn c hc.1 c' hc'.1 hc.2 eC
      subst ec
      subst eP
      rw [RepF.inj r fs fs' h2 k2]
    | obj n =>
      obtain ⟨hn, e⟩ := h'
      cases e
      rw [obj_noG r hn] at h1; cases h1
    | scr _ => obtain ⟨_, _, e, k1⟩ := h'; cases e; rw [h1] at k1; cases k1
    | _ => cases h'
  | .obj n, d', v, ⟨hn, e⟩, h' => by
    subst e
    have hg := obj_noG r hn
    cases d' with
    | tup ds' => obtain ⟨a', xs', e', k1, k2⟩ := h'; cases e'; rw [hg] at k1; cases k1
    | lst ds' => obtain ⟨a', xs', e', k1, k2⟩ := h'; cases e'; rw [hg] at k1; cases k1
    | dct _ => obtain ⟨_, _, e, k, _⟩ := h'; cases e; rw [hg] at k; cases k
    | ins _ _ => obtain ⟨_, _, _, e, k, _⟩ := h'; cases e; rw [hg] at k; cases k
    | obj m => obtain ⟨hm, e⟩ := h'; rw [r.inj n m hn hm (by injection e)]
    | scr _ => obtain ⟨_, _, e, k1⟩ := h'; cases e; rw [hg] at k1; cases k1
    | _ => cases h'
  | .scr ns, d', v, ⟨a, o, e, h1⟩, h' => by
    subst e
    cases d' with
    | tup ds' => obtain ⟨a', xs', e', k1, k2⟩ := h'; cases e'; rw [h1] at k1; cases k1
    | lst ds' => obtain ⟨a', xs', e', k1, k2⟩ := h'; cases e'; rw [h1] at k1; cases k1
    | dct _ => obtain ⟨_, _, e, k, _⟩ := h'; cases e; rw [h1] at k; cases k
    | ins _ _ => obtain ⟨_, _, _, e, k, _⟩ := h'; cases e; rw [h1] at k; cases k
    | obj m => obtain ⟨hm, e⟩ := h'; cases e; rw [obj_noG r hm] at h1; cases h1
    | scr ms =>
      obtain ⟨_, _, e, k1⟩ := h'
      cases e
      rw [h1] at k1
      have z : ns.map V.int = ms.map V.int := by injection k1 with z; injection z with _ z; injection z
      rw [(List.map_inj_right (fun x y e => by injection e)).mp z]
    | _ => cases h'
theorem RepL.inj (r : Rel K S H) : ∀ (ds ds' : List D) {xs : List V}, RepL K S xs ds → RepL K S xs ds' → ds = ds'
  | [], ds', xs, h, h' => by
    have e : xs = [] := h
    subst e
    cases ds' with
    | nil => rfl
    | cons d ds => obtain ⟨_, _, e, _⟩ := h'; cases e
  | d :: ds, ds', xs, ⟨x, t, e, h1, h2⟩, h' => by
    subst e
    cases ds' with
    | nil => cases h'
    | cons d' ds' =>
      obtain ⟨x', t', e', k1, k2⟩ := h'
      cases e'
      rw [Rep.inj r d d' h1 k1, RepL.inj r ds ds' h2 k2]
theorem RepK.inj (r : Rel K S H) : ∀ (ds ds' : List (Key × D)) {xs : List (Key × V)}, RepIK K S.ι S.μ.length S.G xs ds → RepIK K S.ι S.μ.length S.G xs ds' → ds = ds'
  | [], ds', xs, h, h' => by
    have e : xs = [] := h
    subst e
    cases ds' with
    | nil => rfl
    | cons d ds => obtain ⟨k, d⟩ := d; obtain ⟨_, _, e, _⟩ := h'; cases e
  | (k, d) :: ds, ds', xs, ⟨x, t, e, h1, h2⟩, h' => by
    subst e
    cases ds' with
    | nil => cases h'
    | cons d' ds' =>
      obtain ⟨k', d'⟩ := d'
      obtain ⟨x', t', e', k1, k2⟩ := h'
      cases e'
      rw [Rep.inj r d d' h1 k1, RepK.inj r ds ds' h2 k2]
theorem RepF.inj (r : Rel K S H) : ∀ (ds ds' : List (Str × D)) {xs : List (Str × V)}, RepIF K S.ι S.μ.length S.G xs ds → RepIF K S.ι S.μ.length S.G xs ds' → ds = ds'
  | [], ds', xs, h, h' => by
    have e : xs = [] := h
    subst e
    cases ds' with
    | nil => rfl
    | cons d ds => obtain ⟨k, d⟩ := d; obtain ⟨_, _, e, _⟩ := h'; cases e
  | (k, d) :: ds, ds', xs, ⟨x, t, e, h1, h2⟩, h' => by
    subst e
    cases ds' with
    | nil => cases h'
    | cons d' ds' =>
      obtain ⟨k', d'⟩ := d'
      obtain ⟨x', t', e', k1, k2⟩ := h'
      cases e'
      rw [Rep.inj r d d' h1 k1, RepF.inj r ds ds' h2 k2]
end
end
/-! ### == -/
theorem all_refl {bs : List Bool} (h : ∀ b ∈ bs, b = true) : bs.all id = true := by simpa using h
section
variable {K : PySem.W.Frag} {S : S3} {H : Hp}
theorem rdL_inj {a : Addr} {xs ys : List V} (h : H a = some (.lst xs)) (h' : H a = some (.lst ys)) : xs = ys := by
  rw [h] at h'; cases h'; rfl
theorem rdT_inj {a : Addr} {xs ys : List V} (h : H a = some (.tup xs)) (h' : H a = some (.tup ys)) : xs = ys := by
  rw [h] at h'; cases h'; rfl
theorem rdLT {a : Addr} {xs ys : List V} (h : H a = some (.lst xs)) (h' : H a = some (.tup ys)) : False := by
  rw [h] at h'; cases h'
/-- one value twice: if == is told, it is told True -/
theorem dEqB_same (r : Rel K S H) : ∀ (n : Nat) (d d' : D) {v : V} {b : Bool}, Rep K S v d → Rep K S v d' → dEqB S.μ n d d' = some b → b = true
  | 0, _, _, _, _, _, _, h => by cases h
  | n + 1, d, d', v, b, h1, h2, h => by
    have ih := dEqB_same r n
    have all : ∀ (xs : List V) (ds es : List D) (bs : List Bool), RepL K S xs ds → RepL K S xs es → seqO (List.zipWith (dEqB S.μ n) ds es) = some bs → bs.all id = true := fun xs ds es bs k1 k2 e => by
      refine all_refl fun b hb => ?_
      obtain ⟨i, hi, rfl⟩ := List.getElem_of_mem hb
      have q := (seqO_get e).2 i _ (List.getElem?_eq_getElem hi)
      rw [List.getElem?_zipWith] at q
      cases q1 : ds[i]? with
      | none => rw [q1] at q; cases q
      | some d1 =>
        cases q2 : es[i]? with
        | none => rw [q1, q2] at q; cases q
        | some d2 =>
          rw [q1, q2] at q
          obtain ⟨x, z1, z2⟩ := k1.getD q1
          obtain ⟨y, w1, w2⟩ := k2.getD q2
          rw [z1] at w1
          cases w1
          exact ih d1 d2 z2 w2 (by simpa using q)
    obtain ⟨a1, a2, a3, a4, a5, a6⟩ := view_at r h1
    obtain ⟨b1, b2, b3, b4, b5, b6⟩ := view_at r h2
    unfold dEqB at h
    revert h
    cases e1 : viewD S.μ d with
    | lst ds =>
      obtain ⟨a, xs, ea, ka, ra⟩ := a1 ds e1
      cases e2 : viewD S.μ d' with
      | lst es =>
        obtain ⟨a', xs', ea', ka', ra'⟩ := b1 es e2
        rw [ea] at ea'; cases ea'
        have q := rdL_inj ka ka'
        subst q
        intro h
        simp only at h
        rw [if_pos (by rw [← ra.length, ← ra'.length])] at h
        cases e : seqO (List.zipWith (dEqB S.μ n) ds es) with
        | none => rw [e] at h; cases h
        | some bs => rw [e] at h; cases h; exact all xs ds es bs ra ra' e
      | tup es => obtain ⟨a', xs', ea', ka', _⟩ := b2 es e2; rw [ea] at ea'; cases ea'; exact (rdLT ka ka').elim
      | non => rw [ea] at b3; cases b3 e2
      | bl c => rw [ea] at b4; cases b4 c e2
      | int c => rw [ea] at b5; cases b5 c e2
      | str c => rw [ea] at b6; cases b6 c e2
      | _ => intro h; cases h
    | tup ds =>
      obtain ⟨a, xs, ea, ka, ra⟩ := a2 ds e1
      cases e2 : viewD S.μ d' with
      | tup es =>
        obtain ⟨a', xs', ea', ka', ra'⟩ := b2 es e2
        rw [ea] at ea'; cases ea'
        have q := rdT_inj ka ka'
        subst q
        intro h
        simp only at h
        cases e : seqO (List.zipWith (dEqB S.μ n) ds es) with
        | none => rw [e] at h; cases h
        | some bs =>
          rw [e] at h
          cases h
          rw [all xs ds es bs ra ra' e, Bool.true_and, beq_iff_eq, ← ra.length, ← ra'.length]
      | lst es => obtain ⟨a', xs', ea', ka', _⟩ := b1 es e2; rw [ea] at ea'; cases ea'; exact (rdLT ka' ka).elim
      | non => rw [ea] at b3; cases b3 e2
      | bl c => rw [ea] at b4; cases b4 c e2
      | int c => rw [ea] at b5; cases b5 c e2
      | str c => rw [ea] at b6; cases b6 c e2
      | _ => intro h; cases h
    | non =>
      have ev := a3 e1
      cases e2 : viewD S.μ d' with
      | lst es => obtain ⟨_, _, ea', _⟩ := b1 es e2; rw [ev] at ea'; cases ea'
      | tup es => obtain ⟨_, _, ea', _⟩ := b2 es e2; rw [ev] at ea'; cases ea'
      | non => intro h; cases h; rfl
      | bl c => rw [ev] at b4; cases b4 c e2
      | int c => rw [ev] at b5; cases b5 c e2
      | str c => rw [ev] at b6; cases b6 c e2
      | _ => intro h; cases h
    | bl x =>
      have ev := a4 x e1
      cases e2 : viewD S.μ d' with
      | lst es => obtain ⟨_, _, ea', _⟩ := b1 es e2; rw [ev] at ea'; cases ea'
      | tup es => obtain ⟨_, _, ea', _⟩ := b2 es e2; rw [ev] at ea'; cases ea'
      | non => rw [ev] at b3; cases b3 e2
      | bl c => rw [ev] at b4; cases b4 c e2; intro h; cases h; simp
      | int c => rw [ev] at b5; cases b5 c e2
      | str c => rw [ev] at b6; cases b6 c e2
      | _ => intro h; cases h
    | int x =>
      have ev := a5 x e1
      cases e2 : viewD S.μ d' with
      | lst es => obtain ⟨_, _, ea', _⟩ := b1 es e2; rw [ev] at ea'; cases ea'
      | tup es => obtain ⟨_, _, ea', _⟩ := b2 es e2; rw [ev] at ea'; cases ea'
      | non => rw [ev] at b3; cases b3 e2
      | bl c => rw [ev] at b4; cases b4 c e2
      | int c => rw [ev] at b5; cases b5 c e2; intro h; cases h; simp
      | str c => rw [ev] at b6; cases b6 c e2
      | _ => intro h; cases h
    | str x =>
      have ev := a6 x e1
      cases e2 : viewD S.μ d' with
      | lst es => obtain ⟨_, _, ea', _⟩ := b1 es e2; rw [ev] at ea'; cases ea'
      | tup es => obtain ⟨_, _, ea', _⟩ := b2 es e2; rw [ev] at ea'; cases ea'
      | non => rw [ev] at b3; cases b3 e2
      | bl c => rw [ev] at b4; cases b4 c e2
      | int c => rw [ev] at b5; cases b5 c e2
      | str c => rw [ev] at b6; cases b6 c e2; intro h; cases h; simp
      | _ => intro h; cases h
    | _ => cases viewD S.μ d' <;> (intro h; cases h)
end
section
open SeqAt
variable {X : Cx} {pins : List (Addr × Obj)} {σ : St} {H : Hp} {s : Shared} {S : S3}
theorem isL_of (I : Inv X pins σ H s) {a : Addr} {xs : List V} (h : H a = some (.lst xs)) : ∃ its : List Value, Vals xs its ∧ s.heap.IsList a its.toArray := by
  obtain ⟨its, r, p, _⟩ := I.list (.inl (.inl h))
  exact ⟨its, r, p.isList⟩
theorem isT_of (I : Inv X pins σ H s) {a : Addr} {xs : List V} (h : H a = some (.tup xs)) : ∃ its : List Value, Vals xs its ∧ s.heap.IsTuple a its.toArray := by
  obtain ⟨its, r, p, _⟩ := I.tuple (.inl (.inl h))
  exact ⟨its, r, p⟩
theorem rangeAll {bs : List Bool} {n : Nat} (hn : n = bs.length) : (List.range n).all (fun j => bs.getD j false) = bs.all id := by
  subst hn
  induction bs with
  | nil => rfl
  | cons b bs ih =>
    rw [List.length_cons, List.range_succ_eq_map, List.all_cons, List.all_map, List.all_cons]
    have : (fun j => (b :: bs).getD j false) ∘ Nat.succ = fun j => bs.getD j false := by funext j; simp
    rw [this, ih]
    rfl
/-- the items of two sequences, pair by pair -/
theorem pairs_at {A : Around} {n : Nat} {xs ys : List V} {ds es : List D} {its its2 : List Value} {bs : List Bool} (ih : ∀ d d' x y u v b, Rep X.K S x d → Rep X.K S y d' → RelV x u → RelV y v → dEqB S.μ n d d' = some b → EqAt A s u v b)
    (k1 : RepL X.K S xs ds) (k2 : RepL X.K S ys es) (r1 : Vals xs its) (r2 : Vals ys its2) (e : seqO (List.zipWith (dEqB S.μ n) ds es) = some bs) :
    ∀ j (h1 : j < its.toArray.size) (h2 : j < its2.toArray.size), EqAt A s its.toArray[j] its2.toArray[j] (bs.getD j false) := fun j h1 h2 => by
  have l1 := r1.length
  have l2 := r2.length
  have m1 := k1.length
  have m2 := k2.length
  obtain ⟨hl, hg⟩ := seqO_get e
  rw [List.length_zipWith] at hl
  simp only [List.size_toArray] at h1 h2
  have hj : j < bs.length := by omega
  have q := hg j _ (List.getElem?_eq_getElem hj)
  rw [List.getElem?_zipWith] at q
  have g1 : ds[j]? = some ds[j] := List.getElem?_eq_getElem (by omega)
  have g2 : es[j]? = some es[j] := List.getElem?_eq_getElem (by omega)
  rw [g1, g2] at q
  obtain ⟨x, z1, z2⟩ := k1.getD g1
  obtain ⟨y, w1, w2⟩ := k2.getD g2
  obtain ⟨u, u1, u2⟩ := r1.get z1
  obtain ⟨v, v1, v2⟩ := r2.get w1
  have q' : dEqB S.μ n ds[j] es[j] = some bs[j] := by simpa using q
  have eu : its.toArray[j] = u := by
    have := (List.getElem?_eq_some_iff.mp u1).2
    simpa using this
  have ev : its2.toArray[j] = v := by
    have := (List.getElem?_eq_some_iff.mp v1).2
    simpa using this
  have eb : bs.getD j false = bs[j] := by simp [List.getD, List.getElem?_eq_getElem hj]
  rw [eu, ev, eb]
  exact ih _ _ x y u v _ z2 w2 u2 v2 q'
end
end FL

namespace FL
open PySem L2
section
open SeqAt
variable {X : Cx} {pins : List (Addr × Obj)} {σ : St} {H : Hp} {s : Shared} {S : S3}
theorem eqB_at (I : Inv X pins σ H s) (r : Rel X.K S H) : ∀ (n : Nat) (A : Around), A.units + n < cLine → ∀ (d d' : D) (x y : V) (u v : Value) (b : Bool), Rep X.K S x d → Rep X.K S y d' → RelV x u → RelV y v → dEqB S.μ n d d' = some b → EqAt A s u v b
  | 0, _, _, _, _, _, _, _, _, _, _, _, _, _, h => by cases h
  | n + 1, A, hu, d, d', x, y, u, v, b, h1, h2, ru, rv, h => by
    have ih := eqB_at I r n A.in1 (by show A.units + 1 + n < cLine; omega)
    have hu0 : A.units < cLine := by omega
    obtain ⟨a1, a2, a3, a4, a5, a6⟩ := view_at r h1
    obtain ⟨b1, b2, b3, b4, b5, b6⟩ := view_at r h2
    have hh := h
    unfold dEqB at h
    revert h
    cases e1 : viewD S.μ d with
    | non =>
      cases a3 e1; cases ru
      cases e2 : viewD S.μ d' with
      | non => (cases b3 e2; cases rv; intro h; cases h; exact EqAt.same _)
      | bl q => (cases b4 q e2; cases rv; intro h; cases h; exact EqAt.none_bool q)
      | int q => (cases b5 q e2; obtain ⟨t', rfl⟩ := rv; intro h; cases h; exact EqAt.none_int q t')
      | str q => (cases b6 q e2; obtain ⟨t', rfl⟩ := rv; intro h; cases h; exact EqAt.none_str q t')
      | lst es => (obtain ⟨l', ys, eb, kb, rb⟩ := b1 es e2; subst eb; cases rv; obtain ⟨its', w2, hl'⟩ := isL_of I kb; intro h; cases h; exact EqAt.none_list hl' hu0)
      | tup es => (obtain ⟨l', ys, eb, kb, rb⟩ := b2 es e2; subst eb; cases rv; obtain ⟨its', w2, hl'⟩ := isT_of I kb; intro h; cases h; exact EqAt.none_tuple hl' hu0)
      | _ => intro h; cases h
    | bl p =>
      cases a4 p e1; cases ru
      cases e2 : viewD S.μ d' with
      | non => (cases b3 e2; cases rv; intro h; cases h; exact EqAt.bool_none p)
      | bl q => (cases b4 q e2; cases rv; intro h; cases h; exact EqAt.bool_bool p q)
      | int q => (cases b5 q e2; obtain ⟨t', rfl⟩ := rv; intro h; cases h; exact EqAt.bool_int p q t')
      | str q => (cases b6 q e2; obtain ⟨t', rfl⟩ := rv; intro h; cases h; exact EqAt.bool_str p q t')
      | lst es => (obtain ⟨l', ys, eb, kb, rb⟩ := b1 es e2; subst eb; cases rv; obtain ⟨its', w2, hl'⟩ := isL_of I kb; intro h; cases h; exact EqAt.bool_list p hl' hu0)
      | tup es => (obtain ⟨l', ys, eb, kb, rb⟩ := b2 es e2; subst eb; cases rv; obtain ⟨its', w2, hl'⟩ := isT_of I kb; intro h; cases h; exact EqAt.bool_tuple p hl' hu0)
      | _ => intro h; cases h
    | int p =>
      cases a5 p e1; obtain ⟨t, rfl⟩ := ru
      cases e2 : viewD S.μ d' with
      | non => (cases b3 e2; cases rv; intro h; cases h; exact EqAt.int_none p t)
      | bl q => (cases b4 q e2; cases rv; intro h; cases h; exact EqAt.int_bool p t q)
      | int q => (cases b5 q e2; obtain ⟨t', rfl⟩ := rv; intro h; cases h; exact EqAt.int_int p t q t')
      | str q => (cases b6 q e2; obtain ⟨t', rfl⟩ := rv; intro h; cases h; exact EqAt.int_str p t q t')
      | lst es => (obtain ⟨l', ys, eb, kb, rb⟩ := b1 es e2; subst eb; cases rv; obtain ⟨its', w2, hl'⟩ := isL_of I kb; intro h; cases h; exact EqAt.int_list p t hl' hu0)
      | tup es => (obtain ⟨l', ys, eb, kb, rb⟩ := b2 es e2; subst eb; cases rv; obtain ⟨its', w2, hl'⟩ := isT_of I kb; intro h; cases h; exact EqAt.int_tuple p t hl' hu0)
      | _ => intro h; cases h
    | str p =>
      cases a6 p e1; obtain ⟨t, rfl⟩ := ru
      cases e2 : viewD S.μ d' with
      | non => (cases b3 e2; cases rv; intro h; cases h; exact EqAt.str_none p t)
      | bl q => (cases b4 q e2; cases rv; intro h; cases h; exact EqAt.str_bool p t q)
      | int q => (cases b5 q e2; obtain ⟨t', rfl⟩ := rv; intro h; cases h; exact EqAt.str_int p t q t')
      | str q => (cases b6 q e2; obtain ⟨t', rfl⟩ := rv; intro h; cases h; exact EqAt.str_str p t q t')
      | lst es => (obtain ⟨l', ys, eb, kb, rb⟩ := b1 es e2; subst eb; cases rv; obtain ⟨its', w2, hl'⟩ := isL_of I kb; intro h; cases h; exact EqAt.str_list p t hl' hu0)
      | tup es => (obtain ⟨l', ys, eb, kb, rb⟩ := b2 es e2; subst eb; cases rv; obtain ⟨its', w2, hl'⟩ := isT_of I kb; intro h; cases h; exact EqAt.str_tuple p t hl' hu0)
      | _ => intro h; cases h
    | lst ds =>
      obtain ⟨l, xs, ea, ka, ra⟩ := a1 ds e1; subst ea; cases ru; obtain ⟨its, w1, hl⟩ := isL_of I ka
      cases e2 : viewD S.μ d' with
      | non => (cases b3 e2; cases rv; intro h; cases h; exact EqAt.list_none hl hu0)
      | bl q => (cases b4 q e2; cases rv; intro h; cases h; exact EqAt.list_bool q hl hu0)
      | int q => (cases b5 q e2; obtain ⟨t', rfl⟩ := rv; intro h; cases h; exact EqAt.list_int q t' hl hu0)
      | str q => (cases b6 q e2; obtain ⟨t', rfl⟩ := rv; intro h; cases h; exact EqAt.list_str q t' hl hu0)
      | lst es =>
        obtain ⟨l', ys, eb, kb, rb⟩ := b1 es e2; subst eb; cases rv; obtain ⟨its', w2, hl'⟩ := isL_of I kb
        intro h
        by_cases hll : l = l'
        · subst hll
          have bt := dEqB_same r (n + 1) d d' h1 h2 hh
          rw [bt]; exact EqAt.same _
        · refine EqAt.of_refs hll ?_
          simp only at h
          by_cases hz : ds.length = es.length
          · rw [if_pos hz] at h
            cases e : seqO (List.zipWith (dEqB S.μ n) ds es) with
            | none => rw [e] at h; cases h
            | some bs =>
              rw [e] at h; cases h
              have hb : its.toArray.size = bs.length := by have := (seqO_get e).1; rw [List.length_zipWith] at this; have := w1.length; have := ra.length; simp; omega
              rw [← rangeAll hb]
              exact RcAt.lists hl hl' (by have := w1.length; have := w2.length; have := ra.length; have := rb.length; simp; omega) hu0 (pairs_at ih ra rb w1 w2 e)
          · rw [if_neg hz] at h; cases h
            exact RcAt.lists_lengths hl hl' (by have := w1.length; have := w2.length; have := ra.length; have := rb.length; simp; omega) hu0
      | tup es => (obtain ⟨l', ys, eb, kb, rb⟩ := b2 es e2; subst eb; cases rv; obtain ⟨its', w2, hl'⟩ := isT_of I kb; intro h; cases h; exact EqAt.list_tuple hl hl' hu0)
      | _ => intro h; cases h
    | tup ds =>
      obtain ⟨l, xs, ea, ka, ra⟩ := a2 ds e1; subst ea; cases ru; obtain ⟨its, w1, hl⟩ := isT_of I ka
      cases e2 : viewD S.μ d' with
      | non => (cases b3 e2; cases rv; intro h; cases h; exact EqAt.tuple_none hl hu0)
      | bl q => (cases b4 q e2; cases rv; intro h; cases h; exact EqAt.tuple_bool q hl hu0)
      | int q => (cases b5 q e2; obtain ⟨t', rfl⟩ := rv; intro h; cases h; exact EqAt.tuple_int q t' hl hu0)
      | str q => (cases b6 q e2; obtain ⟨t', rfl⟩ := rv; intro h; cases h; exact EqAt.tuple_str q t' hl hu0)
      | lst es => (obtain ⟨l', ys, eb, kb, rb⟩ := b1 es e2; subst eb; cases rv; obtain ⟨its', w2, hl'⟩ := isL_of I kb; intro h; cases h; exact EqAt.tuple_list hl hl' hu0)
      | tup es =>
        obtain ⟨l', ys, eb, kb, rb⟩ := b2 es e2; subst eb; cases rv; obtain ⟨its', w2, hl'⟩ := isT_of I kb
        intro h
        by_cases hll : l = l'
        · subst hll
          have bt := dEqB_same r (n + 1) d d' h1 h2 hh
          rw [bt]; exact EqAt.same _
        · refine EqAt.of_refs hll ?_
          simp only at h
          cases e : seqO (List.zipWith (dEqB S.μ n) ds es) with
          | none => rw [e] at h; cases h
          | some bs =>
            rw [e] at h; cases h
            have hb : min its.toArray.size its'.toArray.size = bs.length := by have := (seqO_get e).1; rw [List.length_zipWith] at this; have := w1.length; have := w2.length; have := ra.length; have := rb.length; simp; omega
            have hs1 : its.toArray.size = ds.length := by have := w1.length; have := ra.length; simp; omega
            have hs2 : its'.toArray.size = es.length := by have := w2.length; have := rb.length; simp; omega
            have q := RcAt.tuples hl hl' hu0 (pairs_at ih ra rb w1 w2 e)
            rw [rangeAll hb, hs1, hs2] at q
            exact q
      | _ => intro h; cases h
    | _ => cases viewD S.μ d' <;> (intro h; cases h)
theorem rcB_at (I : Inv X pins σ H s) (r : Rel X.K S H) (n : Nat) (A : Around) (hu : A.units + (n + 1) < cLine) (d d' : D) (x y : V) (u v : Value) (b : Bool) (h1 : Rep X.K S x d) (h2 : Rep X.K S y d') (ru : RelV x u) (rv : RelV y v) (h : dEqB S.μ (n + 1) d d' = some b) : RcAt A s u v b := by
    have ih := eqB_at I r n A.in1 (by show A.units + 1 + n < cLine; omega)
    have hu0 : A.units < cLine := by omega
    obtain ⟨a1, a2, a3, a4, a5, a6⟩ := view_at r h1
    obtain ⟨b1, b2, b3, b4, b5, b6⟩ := view_at r h2
    unfold dEqB at h
    revert h
    cases e1 : viewD S.μ d with
    | non =>
      cases a3 e1; cases ru
      cases e2 : viewD S.μ d' with
      | non => (cases b3 e2; cases rv; intro h; cases h; exact RcAt.none_none)
      | bl q => (cases b4 q e2; cases rv; intro h; cases h; exact RcAt.none_bool q)
      | int q => (cases b5 q e2; obtain ⟨t', rfl⟩ := rv; intro h; cases h; exact RcAt.none_int q t')
      | str q => (cases b6 q e2; obtain ⟨t', rfl⟩ := rv; intro h; cases h; exact RcAt.none_str q t')
      | lst es => (obtain ⟨l', ys, eb, kb, rb⟩ := b1 es e2; subst eb; cases rv; obtain ⟨its', w2, hl'⟩ := isL_of I kb; intro h; cases h; exact RcAt.none_list hl' hu0)
      | tup es => (obtain ⟨l', ys, eb, kb, rb⟩ := b2 es e2; subst eb; cases rv; obtain ⟨its', w2, hl'⟩ := isT_of I kb; intro h; cases h; exact RcAt.none_tuple hl' hu0)
      | _ => intro h; cases h
    | bl p =>
      cases a4 p e1; cases ru
      cases e2 : viewD S.μ d' with
      | non => (cases b3 e2; cases rv; intro h; cases h; exact RcAt.bool_none p)
      | bl q => (cases b4 q e2; cases rv; intro h; cases h; exact RcAt.bool_bool p q)
      | int q => (cases b5 q e2; obtain ⟨t', rfl⟩ := rv; intro h; cases h; exact RcAt.bool_int p q t')
      | str q => (cases b6 q e2; obtain ⟨t', rfl⟩ := rv; intro h; cases h; exact RcAt.bool_str p q t')
      | lst es => (obtain ⟨l', ys, eb, kb, rb⟩ := b1 es e2; subst eb; cases rv; obtain ⟨its', w2, hl'⟩ := isL_of I kb; intro h; cases h; exact RcAt.bool_list p hl' hu0)
      | tup es => (obtain ⟨l', ys, eb, kb, rb⟩ := b2 es e2; subst eb; cases rv; obtain ⟨its', w2, hl'⟩ := isT_of I kb; intro h; cases h; exact RcAt.bool_tuple p hl' hu0)
      | _ => intro h; cases h
    | int p =>
      cases a5 p e1; obtain ⟨t, rfl⟩ := ru
      cases e2 : viewD S.μ d' with
      | non => (cases b3 e2; cases rv; intro h; cases h; exact RcAt.int_none p t)
      | bl q => (cases b4 q e2; cases rv; intro h; cases h; exact RcAt.int_bool p t q)
      | int q => (cases b5 q e2; obtain ⟨t', rfl⟩ := rv; intro h; cases h; exact RcAt.int_int p t q t')
      | str q => (cases b6 q e2; obtain ⟨t', rfl⟩ := rv; intro h; cases h; exact RcAt.int_str p t q t')
      | lst es => (obtain ⟨l', ys, eb, kb, rb⟩ := b1 es e2; subst eb; cases rv; obtain ⟨its', w2, hl'⟩ := isL_of I kb; intro h; cases h; exact RcAt.int_list p t hl' hu0)
      | tup es => (obtain ⟨l', ys, eb, kb, rb⟩ := b2 es e2; subst eb; cases rv; obtain ⟨its', w2, hl'⟩ := isT_of I kb; intro h; cases h; exact RcAt.int_tuple p t hl' hu0)
      | _ => intro h; cases h
    | str p =>
      cases a6 p e1; obtain ⟨t, rfl⟩ := ru
      cases e2 : viewD S.μ d' with
      | non => (cases b3 e2; cases rv; intro h; cases h; exact RcAt.str_none p t)
      | bl q => (cases b4 q e2; cases rv; intro h; cases h; exact RcAt.str_bool p t q)
      | int q => (cases b5 q e2; obtain ⟨t', rfl⟩ := rv; intro h; cases h; exact RcAt.str_int p t q t')
      | str q => (cases b6 q e2; obtain ⟨t', rfl⟩ := rv; intro h; cases h; exact RcAt.str_str p t q t')
      | lst es => (obtain ⟨l', ys, eb, kb, rb⟩ := b1 es e2; subst eb; cases rv; obtain ⟨its', w2, hl'⟩ := isL_of I kb; intro h; cases h; exact RcAt.str_list p t hl' hu0)
      | tup es => (obtain ⟨l', ys, eb, kb, rb⟩ := b2 es e2; subst eb; cases rv; obtain ⟨its', w2, hl'⟩ := isT_of I kb; intro h; cases h; exact RcAt.str_tuple p t hl' hu0)
      | _ => intro h; cases h
    | lst ds =>
      obtain ⟨l, xs, ea, ka, ra⟩ := a1 ds e1; subst ea; cases ru; obtain ⟨its, w1, hl⟩ := isL_of I ka
      cases e2 : viewD S.μ d' with
      | non => (cases b3 e2; cases rv; intro h; cases h; exact RcAt.list_none hl hu0)
      | bl q => (cases b4 q e2; cases rv; intro h; cases h; exact RcAt.list_bool q hl hu0)
      | int q => (cases b5 q e2; obtain ⟨t', rfl⟩ := rv; intro h; cases h; exact RcAt.list_int q t' hl hu0)
      | str q => (cases b6 q e2; obtain ⟨t', rfl⟩ := rv; intro h; cases h; exact RcAt.list_str q t' hl hu0)
      | lst es =>
        obtain ⟨l', ys, eb, kb, rb⟩ := b1 es e2; subst eb; cases rv; obtain ⟨its', w2, hl'⟩ := isL_of I kb
        intro h
        simp only at h
        by_cases hz : ds.length = es.length
        · rw [if_pos hz] at h
          cases e : seqO (List.zipWith (dEqB S.μ n) ds es) with
          | none => rw [e] at h; cases h
          | some bs =>
            rw [e] at h; cases h
            have hb : its.toArray.size = bs.length := by have := (seqO_get e).1; rw [List.length_zipWith] at this; have := w1.length; have := ra.length; simp; omega
            rw [← rangeAll hb]
            exact RcAt.lists hl hl' (by have := w1.length; have := w2.length; have := ra.length; have := rb.length; simp; omega) hu0 (pairs_at ih ra rb w1 w2 e)
        · rw [if_neg hz] at h; cases h
          exact RcAt.lists_lengths hl hl' (by have := w1.length; have := w2.length; have := ra.length; have := rb.length; simp; omega) hu0
      | tup es => (obtain ⟨l', ys, eb, kb, rb⟩ := b2 es e2; subst eb; cases rv; obtain ⟨its', w2, hl'⟩ := isT_of I kb; intro h; cases h; exact RcAt.list_tuple hl hl' hu0)
      | _ => intro h; cases h
    | tup ds =>
      obtain ⟨l, xs, ea, ka, ra⟩ := a2 ds e1; subst ea; cases ru; obtain ⟨its, w1, hl⟩ := isT_of I ka
      cases e2 : viewD S.μ d' with
      | non => (cases b3 e2; cases rv; intro h; cases h; exact RcAt.tuple_none hl hu0)
      | bl q => (cases b4 q e2; cases rv; intro h; cases h; exact RcAt.tuple_bool q hl hu0)
      | int q => (cases b5 q e2; obtain ⟨t', rfl⟩ := rv; intro h; cases h; exact RcAt.tuple_int q t' hl hu0)
      | str q => (cases b6 q e2; obtain ⟨t', rfl⟩ := rv; intro h; cases h; exact RcAt.tuple_str q t' hl hu0)
      | lst es => (obtain ⟨l', ys, eb, kb, rb⟩ := b1 es e2; subst eb; cases rv; obtain ⟨its', w2, hl'⟩ := isL_of I kb; intro h; cases h; exact RcAt.tuple_list hl hl' hu0)
      | tup es =>
        obtain ⟨l', ys, eb, kb, rb⟩ := b2 es e2; subst eb; cases rv; obtain ⟨its', w2, hl'⟩ := isT_of I kb
        intro h
        simp only at h
        cases e : seqO (List.zipWith (dEqB S.μ n) ds es) with
        | none => rw [e] at h; cases h
        | some bs =>
          rw [e] at h; cases h
          have hb : min its.toArray.size its'.toArray.size = bs.length := by have := (seqO_get e).1; rw [List.length_zipWith] at this; have := w1.length; have := w2.length; have := ra.length; have := rb.length; simp; omega
          have hs1 : its.toArray.size = ds.length := by have := w1.length; have := ra.length; simp; omega
          have hs2 : its'.toArray.size = es.length := by have := w2.length; have := rb.length; simp; omega
          have q := RcAt.tuples hl hl' hu0 (pairs_at ih ra rb w1 w2 e)
          rw [rangeAll hb, hs1, hs2] at q
          exact q
      | _ => intro h; cases h
    | _ => cases viewD S.μ d' <;> (intro h; cases h)
theorem rnB_at (I : Inv X pins σ H s) (r : Rel X.K S H) (n : Nat) (A : Around) (hu : A.units + (n + 1) < cLine) (d d' : D) (x y : V) (u v : Value) (b : Bool) (h1 : Rep X.K S x d) (h2 : Rep X.K S y d') (ru : RelV x u) (rv : RelV y v) (h : dEqB S.μ (n + 1) d d' = some b) : RcNeAt A s u v (!b) := by
    have ih := eqB_at I r n A.in1 (by show A.units + 1 + n < cLine; omega)
    have hu0 : A.units < cLine := by omega
    obtain ⟨a1, a2, a3, a4, a5, a6⟩ := view_at r h1
    obtain ⟨b1, b2, b3, b4, b5, b6⟩ := view_at r h2
    unfold dEqB at h
    revert h
    cases e1 : viewD S.μ d with
    | non =>
      cases a3 e1; cases ru
      cases e2 : viewD S.μ d' with
      | non => (cases b3 e2; cases rv; intro h; cases h; exact RcNeAt.none_none)
      | bl q => (cases b4 q e2; cases rv; intro h; cases h; exact RcNeAt.none_bool q)
      | int q => (cases b5 q e2; obtain ⟨t', rfl⟩ := rv; intro h; cases h; exact RcNeAt.none_int q t')
      | str q => (cases b6 q e2; obtain ⟨t', rfl⟩ := rv; intro h; cases h; exact RcNeAt.none_str q t')
      | lst es => (obtain ⟨l', ys, eb, kb, rb⟩ := b1 es e2; subst eb; cases rv; obtain ⟨its', w2, hl'⟩ := isL_of I kb; intro h; cases h; exact RcNeAt.none_list hl' hu0)
      | tup es => (obtain ⟨l', ys, eb, kb, rb⟩ := b2 es e2; subst eb; cases rv; obtain ⟨its', w2, hl'⟩ := isT_of I kb; intro h; cases h; exact RcNeAt.none_tuple hl' hu0)
      | _ => intro h; cases h
    | bl p =>
      cases a4 p e1; cases ru
      cases e2 : viewD S.μ d' with
      | non => (cases b3 e2; cases rv; intro h; cases h; exact RcNeAt.bool_none p)
      | bl q => (cases b4 q e2; cases rv; intro h; cases h; exact RcNeAt.bool_bool p q)
      | int q => (cases b5 q e2; obtain ⟨t', rfl⟩ := rv; intro h; cases h; exact RcNeAt.bool_int p q t')
      | str q => (cases b6 q e2; obtain ⟨t', rfl⟩ := rv; intro h; cases h; exact RcNeAt.bool_str p q t')
      | lst es => (obtain ⟨l', ys, eb, kb, rb⟩ := b1 es e2; subst eb; cases rv; obtain ⟨its', w2, hl'⟩ := isL_of I kb; intro h; cases h; exact RcNeAt.bool_list p hl' hu0)
      | tup es => (obtain ⟨l', ys, eb, kb, rb⟩ := b2 es e2; subst eb; cases rv; obtain ⟨its', w2, hl'⟩ := isT_of I kb; intro h; cases h; exact RcNeAt.bool_tuple p hl' hu0)
      | _ => intro h; cases h
    | int p =>
      cases a5 p e1; obtain ⟨t, rfl⟩ := ru
      cases e2 : viewD S.μ d' with
      | non => (cases b3 e2; cases rv; intro h; cases h; exact RcNeAt.int_none p t)
      | bl q => (cases b4 q e2; cases rv; intro h; cases h; exact RcNeAt.int_bool p t q)
      | int q => (cases b5 q e2; obtain ⟨t', rfl⟩ := rv; intro h; cases h; exact RcNeAt.int_int p t q t')
      | str q => (cases b6 q e2; obtain ⟨t', rfl⟩ := rv; intro h; cases h; exact RcNeAt.int_str p t q t')
      | lst es => (obtain ⟨l', ys, eb, kb, rb⟩ := b1 es e2; subst eb; cases rv; obtain ⟨its', w2, hl'⟩ := isL_of I kb; intro h; cases h; exact RcNeAt.int_list p t hl' hu0)
      | tup es => (obtain ⟨l', ys, eb, kb, rb⟩ := b2 es e2; subst eb; cases rv; obtain ⟨its', w2, hl'⟩ := isT_of I kb; intro h; cases h; exact RcNeAt.int_tuple p t hl' hu0)
      | _ => intro h; cases h
    | str p =>
      cases a6 p e1; obtain ⟨t, rfl⟩ := ru
      cases e2 : viewD S.μ d' with
      | non => (cases b3 e2; cases rv; intro h; cases h; exact RcNeAt.str_none p t)
      | bl q => (cases b4 q e2; cases rv; intro h; cases h; exact RcNeAt.str_bool p t q)
      | int q => (cases b5 q e2; obtain ⟨t', rfl⟩ := rv; intro h; cases h; exact RcNeAt.str_int p t q t')
      | str q => (cases b6 q e2; obtain ⟨t', rfl⟩ := rv; intro h; cases h; exact RcNeAt.str_str p t q t')
      | lst es => (obtain ⟨l', ys, eb, kb, rb⟩ := b1 es e2; subst eb; cases rv; obtain ⟨its', w2, hl'⟩ := isL_of I kb; intro h; cases h; exact RcNeAt.str_list p t hl' hu0)
      | tup es => (obtain ⟨l', ys, eb, kb, rb⟩ := b2 es e2; subst eb; cases rv; obtain ⟨its', w2, hl'⟩ := isT_of I kb; intro h; cases h; exact RcNeAt.str_tuple p t hl' hu0)
      | _ => intro h; cases h
    | lst ds =>
      obtain ⟨l, xs, ea, ka, ra⟩ := a1 ds e1; subst ea; cases ru; obtain ⟨its, w1, hl⟩ := isL_of I ka
      cases e2 : viewD S.μ d' with
      | non => (cases b3 e2; cases rv; intro h; cases h; exact RcNeAt.list_none hl hu0)
      | bl q => (cases b4 q e2; cases rv; intro h; cases h; exact RcNeAt.list_bool q hl hu0)
      | int q => (cases b5 q e2; obtain ⟨t', rfl⟩ := rv; intro h; cases h; exact RcNeAt.list_int q t' hl hu0)
      | str q => (cases b6 q e2; obtain ⟨t', rfl⟩ := rv; intro h; cases h; exact RcNeAt.list_str q t' hl hu0)
      | lst es =>
        obtain ⟨l', ys, eb, kb, rb⟩ := b1 es e2; subst eb; cases rv; obtain ⟨its', w2, hl'⟩ := isL_of I kb
        intro h
        simp only at h
        by_cases hz : ds.length = es.length
        · rw [if_pos hz] at h
          cases e : seqO (List.zipWith (dEqB S.μ n) ds es) with
          | none => rw [e] at h; cases h
          | some bs =>
            rw [e] at h; cases h
            have hb : its.toArray.size = bs.length := by have := (seqO_get e).1; rw [List.length_zipWith] at this; have := w1.length; have := ra.length; simp; omega
            rw [← rangeAll hb]
            exact RcNeAt.lists hl hl' (by have := w1.length; have := w2.length; have := ra.length; have := rb.length; simp; omega) hu0 (pairs_at ih ra rb w1 w2 e)
        · rw [if_neg hz] at h; cases h
          exact RcNeAt.lists_lengths hl hl' (by have := w1.length; have := w2.length; have := ra.length; have := rb.length; simp; omega) hu0
      | tup es => (obtain ⟨l', ys, eb, kb, rb⟩ := b2 es e2; subst eb; cases rv; obtain ⟨its', w2, hl'⟩ := isT_of I kb; intro h; cases h; exact RcNeAt.list_tuple hl hl' hu0)
      | _ => intro h; cases h
    | tup ds =>
      obtain ⟨l, xs, ea, ka, ra⟩ := a2 ds e1; subst ea; cases ru; obtain ⟨its, w1, hl⟩ := isT_of I ka
      cases e2 : viewD S.μ d' with
      | non => (cases b3 e2; cases rv; intro h; cases h; exact RcNeAt.tuple_none hl hu0)
      | bl q => (cases b4 q e2; cases rv; intro h; cases h; exact RcNeAt.tuple_bool q hl hu0)
      | int q => (cases b5 q e2; obtain ⟨t', rfl⟩ := rv; intro h; cases h; exact RcNeAt.tuple_int q t' hl hu0)
      | str q => (cases b6 q e2; obtain ⟨t', rfl⟩ := rv; intro h; cases h; exact RcNeAt.tuple_str q t' hl hu0)
      | lst es => (obtain ⟨l', ys, eb, kb, rb⟩ := b1 es e2; subst eb; cases rv; obtain ⟨its', w2, hl'⟩ := isL_of I kb; intro h; cases h; exact RcNeAt.tuple_list hl hl' hu0)
      | tup es =>
        obtain ⟨l', ys, eb, kb, rb⟩ := b2 es e2; subst eb; cases rv; obtain ⟨its', w2, hl'⟩ := isT_of I kb
        intro h
        simp only at h
        cases e : seqO (List.zipWith (dEqB S.μ n) ds es) with
        | none => rw [e] at h; cases h
        | some bs =>
          rw [e] at h; cases h
          have hb : min its.toArray.size its'.toArray.size = bs.length := by have := (seqO_get e).1; rw [List.length_zipWith] at this; have := w1.length; have := w2.length; have := ra.length; have := rb.length; simp; omega
          have hs1 : its.toArray.size = ds.length := by have := w1.length; have := ra.length; simp; omega
          have hs2 : its'.toArray.size = es.length := by have := w2.length; have := rb.length; simp; omega
          have q := RcNeAt.tuples hl hl' hu0 (pairs_at ih ra rb w1 w2 e)
          rw [rangeAll hb, hs1, hs2] at q
          exact q
      | _ => intro h; cases h
    | _ => cases viewD S.μ d' <;> (intro h; cases h)
end
end FL

namespace FL
open PySem L2
/-! ### the operators' meaning -/
def dAdd (μ : Store) (x y : D) : Option D := match x, y with
  | .int a, .int b => some (.int (a + b))
  | .str a, .str b => if a.length + b.length ≤ sizeLine then some (.str (a ++ b)) else none
  | .tup a, .tup b => if a.length + b.length ≤ sizeLine then some (.tup (a ++ b)) else none
  | x, y => match asL μ x, asL μ y with
    | some a, some b => if a.length + b.length ≤ sizeLine then some (.lst (a ++ b)) else none
    | _, _ => none
def dSub (_ : Store) (x y : D) : Option D := match x, y with
  | .int a, .int b => some (.int (a - b))
  | _, _ => none
def small64 (i : Int) : Bool := decide (-(2 ^ 64) < i) && decide (i < 2 ^ 64)
def dMul (μ : Store) (x y : D) : Option D := match x, y with
  | .int a, .int b => if small64 a || small64 b then some (.int (a * b)) else none
  | x, .int k => (match asL μ x with
    | some a => if decide (-(2 ^ 63) ≤ k) && decide (k < 2 ^ 63) && decide (a.length * k.toNat ≤ sizeLine) then some (.lst (List.replicate k.toNat a).flatten) else none
    | none => none)
  | _, _ => none
def dFdiv (_ : Store) (x y : D) : Option D := match x, y with
  | .int a, .int b => if decide (0 < b) && decide (b < 1073741824) then some (.int (a / b)) else none
  | _, _ => none
def dMod (_ : Store) (x y : D) : Option D := match x, y with
  | .int a, .int b => if 0 < b then some (.int (a % b)) else none
  | _, _ => none
def dPow (_ : Store) (x y : D) : Option D := match x, y with
  | .int a, .int b => if decide (0 ≤ b) && decide (b ≤ 1000000) && decide (a.natAbs < 2 ^ 64) then some (.int (a ^ b.toNat)) else none
  | _, _ => none
def dEq (μ : Store) (x y : D) : Option D := (dEqB μ 30 x y).map .bl
def dNe (μ : Store) (x y : D) : Option D := (dEqB μ 30 x y).map fun b => .bl (!b)
def dCmp (p : Int → Int → Bool) (q : List Nat → List Nat → Bool) (_ : Store) (x y : D) : Option D := match x, y with
  | .int a, .int b => some (.bl (p a b))
  | .str a, .str b => some (.bl (q a.cps.toList b.cps.toList))
  | _, _ => none
def dLt := dCmp (fun i j => decide (i < j)) (fun i j => decide (i < j))
def dLe := dCmp (fun i j => decide (i ≤ j)) (fun i j => !decide (j < i))
def dGt := dCmp (fun i j => decide (j < i)) (fun i j => decide (j < i))
def dGe := dCmp (fun i j => decide (j ≤ i)) (fun i j => !decide (i < j))
def inStr (a b : Str) : Bool := !(Builtin.Str.occurrences b a 0 b.length 1).isEmpty
def dInB (μ : Store) (x y : D) : Option Bool := match viewD μ y with
  | .str b => (match x with
    | .str a => some (inStr a b)
    | _ => none)
  | .lst ys => (match seqO (ys.map fun y => dEqB μ 30 y x) with
    | some bs => some (bs.any id)
    | none => none)
  | .tup ys => (match seqO (ys.map fun y => dEqB μ 30 y x) with
    | some bs => some (bs.any id)
    | none => none)
  | _ => none
def dIn (μ : Store) (x y : D) : Option D := (dInB μ x y).map .bl
def dNotIn (μ : Store) (x y : D) : Option D := (dInB μ x y).map fun b => .bl (!b)
def isNonB : D → Bool
  | .non => true
  | _ => false
/-- is None -/
def dIsN (_ : Store) (x y : D) : Option D := match y with
  | .non => some (.bl (isNonB x))
  | _ => none
def dNotN (_ : Store) (x y : D) : Option D := match y with
  | .non => some (.bl (!isNonB x))
  | _ => none
section
variable {X : Cx}
theorem isNon_iff {K : PySem.W.Frag} {S : S3} {v : V} {d : D} (h : Rep K S v d) : decide (v = .non) = isNonB d := by
  cases d with
  | non => rw [show v = .non from h]; rfl
  | bl b => rw [show v = .bl b from h]; rfl
  | int b => rw [show v = .int b from h]; rfl
  | str b => rw [show v = .str b from h]; rfl
  | tup _ => obtain ⟨_, _, e, _⟩ := h; rw [e]; rfl
  | lst _ => obtain ⟨_, _, e, _⟩ := h; rw [e]; rfl
  | dct _ => obtain ⟨_, _, e, _⟩ := h; rw [e]; rfl
  | ins _ _ => obtain ⟨_, _, _, e, _⟩ := h; rw [e]; rfl
  | obj _ => obtain ⟨_, e⟩ := h; rw [e]; rfl
  | scr _ => obtain ⟨_, _, e, _⟩ := h; rw [e]; rfl
theorem or_isN : OpR X (compareOp .Is) (r2D X.K dIsN) := by
  intro pins s σ H x y u v Q I rx ry h
  obtain ⟨S, dx, dy, d, r, hx, hy, e, p⟩ := h
  cases dy with
  | non =>
    have ey : y = .non := hy
    subst ey
    refine op_isN pins s σ H x _ u v Q I rx ry ⟨rfl, ?_⟩
    rw [isNon_iff hx]
    cases e
    exact p.now r rfl
  | _ => cases e
theorem or_notN : OpR X (compareOp .IsNot) (r2D X.K dNotN) := by
  intro pins s σ H x y u v Q I rx ry h
  obtain ⟨S, dx, dy, d, r, hx, hy, e, p⟩ := h
  cases dy with
  | non =>
    have ey : y = .non := hy
    subst ey
    refine op_notN pins s σ H x _ u v Q I rx ry ⟨rfl, ?_⟩
    rw [isNon_iff hx]
    cases e
    exact p.now r rfl
  | _ => cases e
theorem or_add : OpR X (binaryOp .Add) (r2D X.K dAdd) := by
  intro pins s σ H x y u v Q I rx ry h
  obtain ⟨S, dx, dy, d, r, hx, hy, e, p⟩ := h
  have lists : (match asL S.μ dx, asL S.μ dy with
    | some a, some b => if a.length + b.length ≤ sizeLine then some (D.lst (a ++ b)) else none
    | _, _ => none) = some d → wpAny (model X.prog X.w) X.A (binaryOp .Add u v) (EP X pins σ Q) X.xe s := fun e => by
    cases e1 : asL S.μ dx with
    | none => rw [e1] at e; cases e
    | some a =>
      cases e2 : asL S.μ dy with
      | none => rw [e1, e2] at e; cases e
      | some b =>
        rw [e1, e2] at e
        simp only at e
        split at e
        · rename_i hz
          cases e
          obtain ⟨l, xs, rfl, k1, k2⟩ := lst_at r hx e1
          obtain ⟨l', ys, rfl, k3, k4⟩ := lst_at r hy e2
          exact op_cat pins s σ H _ _ u v Q I rx ry ⟨l, l', xs, ys, rfl, rfl, k1, k3, by rw [k2.length, k4.length]; exact hz, fun q hq => p.lst r (k2.append k4) hq⟩
        · cases e
  cases dx with
  | int a =>
    cases dy with
    | int b =>
      have ex : x = .int a := hx
      have ey : y = .int b := hy
      subst ex ey
      cases e
      exact op_add pins s σ H _ _ u v Q I rx ry ⟨a, b, rfl, rfl, p.now r rfl⟩
    | _ => exact lists e
  | str a =>
    cases dy with
    | str b =>
      have ex : x = .str a := hx
      have ey : y = .str b := hy
      subst ex ey
      unfold dAdd at e
      simp only at e
      split at e
      · rename_i hz
        cases e
        exact op_add_str pins s σ H _ _ u v Q I rx ry ⟨a, b, rfl, rfl, hz, p.now r rfl⟩
      · cases e
    | _ => exact lists e
  | tup a =>
    cases dy with
    | tup b =>
      obtain ⟨l, xs, rfl, k1, k2⟩ := tup_at r hx
      obtain ⟨l', ys, rfl, k3, k4⟩ := tup_at r hy
      unfold dAdd at e
      simp only at e
      split at e
      · rename_i hz
        cases e
        refine op_catA pins s σ H _ _ u v Q I rx ry ⟨l, l', xs, ys, rfl, rfl, sqT_of k1, sqT_of k3, by rw [k2.length, k4.length]; exact hz, fun en => ?_, fun _ en => ?_, fun _ _ q hq => p.tup r (k2.append k4) hq⟩
        · subst en
          have : a = [] := by have := k2.length; simpa using this.symm
          subst this
          exact p.now r hy
        · subst en
          have : b = [] := by have := k4.length; simpa using this.symm
          subst this
          rw [List.append_nil] at p
          exact p.now r hx
      · cases e
    | _ => exact lists e
  | _ => exact lists e
theorem or_sub : OpR X (binaryOp .Sub) (r2D X.K dSub) := by
  intro pins s σ H x y u v Q I rx ry h
  obtain ⟨S, dx, dy, d, r, hx, hy, e, p⟩ := h
  cases dx with
  | int a =>
    cases dy with
    | int b =>
      have ex : x = .int a := hx
      have ey : y = .int b := hy
      subst ex ey
      cases e
      exact op_sub pins s σ H _ _ u v Q I rx ry ⟨a, b, rfl, rfl, p.now r rfl⟩
    | _ => cases e
  | _ => cases dy <;> cases e
theorem small64_iff {i : Int} (h : small64 i = true) : -(2 ^ 64) < i ∧ i < 2 ^ 64 := by
  unfold small64 at h
  simpa using h
theorem RepL.rep {K : PySem.W.Frag} {S : S3} {xs : List V} {ds : List D} (h : RepL K S xs ds) : ∀ k : Nat, RepL K S (List.replicate k xs).flatten (List.replicate k ds).flatten
  | 0 => rfl
  | k + 1 => by
    rw [List.replicate_succ, List.replicate_succ, List.flatten_cons, List.flatten_cons]
    exact h.append (RepL.rep h k)
theorem or_mul : OpR X (binaryOp .Mult) (r2D X.K dMul) := by
  intro pins s σ H x y u v Q I rx ry h
  obtain ⟨S, dx, dy, d, r, hx, hy, e, p⟩ := h
  have lists : ∀ k, y = .int k → (match asL S.μ dx with
    | some a => if decide (-(2 ^ 63) ≤ k) && decide (k < 2 ^ 63) && decide (a.length * k.toNat ≤ sizeLine) then some (D.lst (List.replicate k.toNat a).flatten) else none
    | none => none) = some d → wpAny (model X.prog X.w) X.A (binaryOp .Mult u v) (EP X pins σ Q) X.xe s := fun k ey e => by
    subst ey
    cases e1 : asL S.μ dx with
    | none => rw [e1] at e; cases e
    | some a =>
      rw [e1] at e
      simp only at e
      split at e
      · rename_i hz
        cases e
        simp only [Bool.and_eq_true, decide_eq_true_eq] at hz
        obtain ⟨l, xs, rfl, k1, k2⟩ := lst_at r hx e1
        exact op_rep pins s σ H _ _ u v Q I rx ry ⟨l, k, xs, rfl, rfl, k1, hz.1.1, hz.1.2, by rw [k2.length]; exact hz.2, fun q hq => p.lst r (k2.rep _) hq⟩
      · cases e
  cases dy with
  | int b =>
    have ey : y = .int b := hy
    subst ey
    cases dx with
    | int a =>
      have ex : x = .int a := hx
      subst ex
      unfold dMul at e
      simp only at e
      split at e
      · rename_i hz
        cases e
        refine op_mul pins s σ H _ _ u v Q I rx ry ⟨a, b, rfl, rfl, ?_, p.now r rfl⟩
        rw [Bool.or_eq_true] at hz
        rcases hz with hz | hz
        · exact .inl (small64_iff hz)
        · exact .inr (small64_iff hz)
      · cases e
    | lst ds => exact lists b rfl e
    | obj n => exact lists b rfl e
    | _ => cases e
  | _ => cases dx <;> cases e
/-- two ints -/
theorem or_ints {f : Value → Value → Sem Value} {g : Store → D → D → Option D} {C : Int → Int → Prop} {k : Int → Int → V} {kd : Int → Int → D} (ho : OpR X f (rI C k)) (hk : ∀ S i j, Rep X.K S (k i j) (kd i j))
    (hg : ∀ μ x y d, g μ x y = some d → ∃ i j, x = .int i ∧ y = .int j ∧ C i j ∧ d = kd i j) : OpR X f (r2D X.K g) := by
  intro pins s σ H x y u v Q I rx ry h
  obtain ⟨S, dx, dy, d, r, hx, hy, e, p⟩ := h
  obtain ⟨i, j, rfl, rfl, hc, rfl⟩ := hg _ _ _ _ e
  exact ho pins s σ H x y u v Q I rx ry ⟨i, j, hx, hy, hc, p.now r (hk S i j)⟩
theorem or_fdiv : OpR X (binaryOp .FloorDiv) (r2D X.K dFdiv) := or_ints (kd := fun i j => .int (i / j)) op_fdiv (fun _ _ _ => rfl) fun μ x y d h => by
  cases x with
  | int i =>
    cases y with
    | int j =>
      unfold dFdiv at h
      simp only at h
      split at h
      · rename_i hz
        simp only [Bool.and_eq_true, decide_eq_true_eq] at hz
        cases h
        exact ⟨i, j, rfl, rfl, hz, rfl⟩
      · cases h
    | _ => cases h
  | _ => cases y <;> cases h
theorem or_mod : OpR X (binaryOp .Mod) (r2D X.K dMod) := or_ints (kd := fun i j => .int (i % j)) op_mod (fun _ _ _ => rfl) fun μ x y d h => by
  cases x with
  | int i =>
    cases y with
    | int j =>
      unfold dMod at h
      simp only at h
      split at h
      · rename_i hz
        cases h
        exact ⟨i, j, rfl, rfl, hz, rfl⟩
      · cases h
    | _ => cases h
  | _ => cases y <;> cases h
theorem or_pow : OpR X (binaryOp .Pow) (r2D X.K dPow) := or_ints (kd := fun i j => .int (i ^ j.toNat)) op_pow (fun _ _ _ => rfl) fun μ x y d h => by
  cases x with
  | int i =>
    cases y with
    | int j =>
      unfold dPow at h
      simp only at h
      split at h
      · rename_i hz
        simp only [Bool.and_eq_true, decide_eq_true_eq] at hz
        cases h
        exact ⟨i, j, rfl, rfl, ⟨hz.1.1, hz.1.2, hz.2⟩, rfl⟩
      · cases h
    | _ => cases h
  | _ => cases y <;> cases h
theorem or_cmp {op : CmpOp} {p : Int → Int → Bool} {q : List Nat → List Nat → Bool} (h1 : OpR X (compareOp op) (rI0 fun i j => .bl (p i j)))
    (h2 : OpR X (compareOp op) (fun x y H Q => ∃ i j, x = .str i ∧ y = .str j ∧ Q (.bl (q i.cps.toList j.cps.toList)) H)) : OpR X (compareOp op) (r2D X.K (dCmp p q)) := by
  intro pins s σ H x y u v Q I rx ry h
  obtain ⟨S, dx, dy, d, r, hx, hy, e, pk⟩ := h
  cases dx with
  | int i =>
    cases dy with
    | int j => cases e; exact h1 pins s σ H x y u v Q I rx ry ⟨i, j, hx, hy, pk.now r rfl⟩
    | _ => cases e
  | str i =>
    cases dy with
    | str j => cases e; exact h2 pins s σ H x y u v Q I rx ry ⟨i, j, hx, hy, pk.now r rfl⟩
    | _ => cases e
  | _ => cases dy <;> cases e
theorem or_lt : OpR X (compareOp .Lt) (r2D X.K dLt) := or_cmp op_lt op_lt_str
theorem or_le : OpR X (compareOp .LtE) (r2D X.K dLe) := or_cmp op_le op_le_str
theorem or_gt : OpR X (compareOp .Gt) (r2D X.K dGt) := or_cmp op_gt op_gt_str
theorem or_ge : OpR X (compareOp .GtE) (r2D X.K dGe) := or_cmp op_ge op_ge_str
theorem or_eq (hu : X.A.units + 64 < cLine) : OpR X (compareOp .Eq) (r2D X.K dEq) := by
  intro pins s σ H x y u v Q I rx ry h
  obtain ⟨S, dx, dy, d, r, hx, hy, e, p⟩ := h
  unfold dEq at e
  cases e1 : dEqB S.μ 30 dx dy with
  | none => rw [e1] at e; cases e
  | some b =>
    rw [e1] at e
    cases e
    exact rcB_at I r 29 X.A (by omega) dx dy x y u v b hx hy rx ry e1 X.prog X.w X.xe _ ⟨.bl b, H, I, rfl, p.now r rfl⟩
theorem or_ne (hu : X.A.units + 64 < cLine) : OpR X (compareOp .NotEq) (r2D X.K dNe) := by
  intro pins s σ H x y u v Q I rx ry h
  obtain ⟨S, dx, dy, d, r, hx, hy, e, p⟩ := h
  unfold dNe at e
  cases e1 : dEqB S.μ 30 dx dy with
  | none => rw [e1] at e; cases e
  | some b =>
    rw [e1] at e
    cases e
    exact rnB_at I r 29 X.A (by omega) dx dy x y u v b hx hy rx ry e1 X.prog X.w X.xe _ ⟨.bl (!b), H, I, rfl, p.now r rfl⟩
theorem relV_inj {v v' : V} {u : Value} (h : RelV v u) (h' : RelV v' u) : v = v' := by
  cases v <;> cases v' <;> simp only [RelV] at h h' <;> (try (obtain ⟨t, rfl⟩ := h)) <;> (try (obtain ⟨t', h'⟩ := h')) <;> (try subst h) <;> (try cases h') <;> rfl
/-- the answers of the items, read off the items -/
theorem any_at {pins : List (Addr × Obj)} {σ : St} {H : Hp} {s : Shared} {S : S3} {A : Around} {n : Nat} {x : V} {u : Value} {dx : D} {ys : List V} {ds : List D} {its : List Value} {bs : List Bool} (I : Inv X pins σ H s) (r : Rel X.K S H) (hu : A.units + n < cLine)
    (hx : Rep X.K S x dx) (ru : RelV x u) (k : RepL X.K S ys ds) (rv : Vals ys its) (e : seqO (ds.map fun y => dEqB S.μ n y dx) = some bs) :
    ∃ f : Value → Bool, (∀ y, y ∈ its.toArray → SeqAt.EqAt A s y u (f y)) ∧ its.toArray.any f = bs.any id := by
  classical
  obtain ⟨hl, hg⟩ := seqO_get e
  rw [List.length_map] at hl
  have l1 := k.length
  have l2 := rv.length
  have item : ∀ j (hj : j < its.length), ∃ (y : V) (d : D) (b : Bool), Rep X.K S y d ∧ RelV y its[j] ∧ dEqB S.μ n d dx = some b ∧ bs[j]? = some b := fun j hj => by
    have g1 : ds[j]? = some ds[j] := List.getElem?_eq_getElem (by omega)
    obtain ⟨y, z1, z2⟩ := k.getD g1
    obtain ⟨w, w1, w2⟩ := rv.get z1
    have ew : its[j] = w := (List.getElem?_eq_some_iff.mp w1).2
    have q := hg j _ (List.getElem?_eq_getElem (by omega))
    rw [List.getElem?_map, g1] at q
    exact ⟨y, ds[j], bs[j], z2, by rw [ew]; exact w2, by simpa using q, List.getElem?_eq_getElem (by omega)⟩
  refine ⟨fun y => decide (∃ v d, RelV v y ∧ Rep X.K S v d ∧ dEqB S.μ n d dx = some true), fun y hy => ?_, ?_⟩
  · obtain ⟨j, hj, rfl⟩ := List.getElem_of_mem (show y ∈ its by simpa using hy)
    obtain ⟨v, d, b, h1, h2, h3, _⟩ := item j hj
    have q := eqB_at I r n A hu d dx v x its[j] u b h1 hx h2 ru h3
    cases b with
    | true =>
      have z : decide (∃ v d, RelV v its[j] ∧ Rep X.K S v d ∧ dEqB S.μ n d dx = some true) = true := decide_eq_true ⟨v, d, h2, h1, h3⟩
      show SeqAt.EqAt A s its[j] u (decide (∃ v d, RelV v its[j] ∧ Rep X.K S v d ∧ dEqB S.μ n d dx = some true))
      rw [z]
      exact q
    | false =>
      have z : decide (∃ v d, RelV v its[j] ∧ Rep X.K S v d ∧ dEqB S.μ n d dx = some true) = false := decide_eq_false (by
        rintro ⟨v', d', k1, k2, k3⟩
        have ev := relV_inj h2 k1
        subst ev
        rw [Rep.inj r d d' h1 k2, k3] at h3
        cases h3)
      show SeqAt.EqAt A s its[j] u (decide (∃ v d, RelV v its[j] ∧ Rep X.K S v d ∧ dEqB S.μ n d dx = some true))
      rw [z]
      exact q
  · rw [Bool.eq_iff_iff]
    simp only [List.any_toArray, List.any_eq_true, decide_eq_true_eq, id]
    constructor
    · rintro ⟨y, hy, v', d', k1, k2, k3⟩
      obtain ⟨j, hj, rfl⟩ := List.getElem_of_mem hy
      obtain ⟨v, d, b, h1, h2, h3, h4⟩ := item j hj
      have ev := relV_inj h2 k1
      subst ev
      rw [Rep.inj r d d' h1 k2, k3] at h3
      cases h3
      exact ⟨true, List.mem_of_getElem? h4, rfl⟩
    · rintro ⟨b, hb, rfl⟩
      obtain ⟨j, hj, ej⟩ := List.getElem_of_mem hb
      obtain ⟨v, d, b, h1, h2, h3, h4⟩ := item j (by omega)
      rw [List.getElem?_eq_getElem hj, ej] at h4
      cases h4
      exact ⟨its[j], List.getElem_mem _, v, d, h2, h1, h3⟩
theorem or_in (hu : X.A.units + 64 < cLine) : OpR X (compareOp .In) (r2D X.K dIn) := by
  intro pins s σ H x y u v Q I rx ry h
  obtain ⟨S, dx, dy, d, r, hx, hy, e, p⟩ := h
  obtain ⟨b1, b2, b3, b4, b5, b6⟩ := view_at r hy
  unfold dIn dInB at e
  cases e1 : viewD S.μ dy with
  | str b =>
    rw [e1] at e
    cases b6 b e1
    cases dx with
    | str a => cases e; exact op_in_str pins s σ H x _ u v Q I rx ry ⟨a, b, hx, rfl, p.now r rfl⟩
    | _ => cases e
  | lst ds =>
    rw [e1] at e
    simp only at e
    obtain ⟨l, xs, ea, ka, ra⟩ := b1 ds e1
    subst ea
    cases ry
    obtain ⟨its, w1, hl⟩ := isL_of I ka
    cases e2 : seqO (ds.map fun y => dEqB S.μ 30 y dx) with
    | none => rw [e2] at e; cases e
    | some bs =>
      rw [e2] at e
      cases e
      obtain ⟨f, h1, h2⟩ := any_at (A := X.A.in1) I r (by show X.A.units + 1 + 30 < cLine; omega) hx rx ra w1 e2
      refine SeqAt.in_listAt f hl h1 ⟨.bl _, H, I, rfl, ?_⟩
      rw [h2]
      exact p.now r rfl
  | tup ds =>
    rw [e1] at e
    simp only at e
    obtain ⟨l, xs, ea, ka, ra⟩ := b2 ds e1
    subst ea
    cases ry
    obtain ⟨its, w1, hl⟩ := isT_of I ka
    cases e2 : seqO (ds.map fun y => dEqB S.μ 30 y dx) with
    | none => rw [e2] at e; cases e
    | some bs =>
      rw [e2] at e
      cases e
      obtain ⟨f, h1, h2⟩ := any_at (A := X.A.in1) I r (by show X.A.units + 1 + 30 < cLine; omega) hx rx ra w1 e2
      refine SeqAt.in_tupleAt f hl h1 ⟨.bl _, H, I, rfl, ?_⟩
      rw [h2]
      exact p.now r rfl
  | _ => rw [e1] at e; cases e
theorem or_notIn (hu : X.A.units + 64 < cLine) : OpR X (compareOp .NotIn) (r2D X.K dNotIn) := by
  intro pins s σ H x y u v Q I rx ry h
  obtain ⟨S, dx, dy, d, r, hx, hy, e, p⟩ := h
  obtain ⟨b1, b2, b3, b4, b5, b6⟩ := view_at r hy
  unfold dNotIn dInB at e
  cases e1 : viewD S.μ dy with
  | str b =>
    rw [e1] at e
    cases b6 b e1
    cases dx with
    | str a => cases e; exact op_notin_str pins s σ H x _ u v Q I rx ry ⟨a, b, hx, rfl, p.now r rfl⟩
    | _ => cases e
  | lst ds =>
    rw [e1] at e
    simp only at e
    obtain ⟨l, xs, ea, ka, ra⟩ := b1 ds e1
    subst ea
    cases ry
    obtain ⟨its, w1, hl⟩ := isL_of I ka
    cases e2 : seqO (ds.map fun y => dEqB S.μ 30 y dx) with
    | none => rw [e2] at e; cases e
    | some bs =>
      rw [e2] at e
      cases e
      obtain ⟨f, h1, h2⟩ := any_at (A := X.A.in1) I r (by show X.A.units + 1 + 30 < cLine; omega) hx rx ra w1 e2
      refine SeqAt.notIn_listAt f hl h1 ⟨.bl _, H, I, rfl, ?_⟩
      rw [h2]
      exact p.now r rfl
  | tup ds =>
    rw [e1] at e
    simp only at e
    obtain ⟨l, xs, ea, ka, ra⟩ := b2 ds e1
    subst ea
    cases ry
    obtain ⟨its, w1, hl⟩ := isT_of I ka
    cases e2 : seqO (ds.map fun y => dEqB S.μ 30 y dx) with
    | none => rw [e2] at e; cases e
    | some bs =>
      rw [e2] at e
      cases e
      obtain ⟨f, h1, h2⟩ := any_at (A := X.A.in1) I r (by show X.A.units + 1 + 30 < cLine; omega) hx rx ra w1 e2
      refine SeqAt.notIn_tupleAt f hl h1 ⟨.bl _, H, I, rfl, ?_⟩
      rw [h2]
      exact p.now r rfl
  | _ => rw [e1] at e; cases e
end
end FL

namespace FL
open PySem L2
/-! ### argument lists, displays -/
def aNil : Env → M (List D) := fun _ => M.ret []
def aCons (m : EM) (ms : Env → M (List D)) : Env → M (List D) := fun ρ => (m ρ).bnd fun d => (ms ρ).bnd fun ds => M.ret (d :: ds)
def mLst (ms : Env → M (List D)) : EM := fun ρ => (ms ρ).bnd fun ds μ => if ds.length ≤ sizeLine then .ok (.lst ds) μ else .bad
def mTup (ms : Env → M (List D)) : EM := fun ρ => (ms ρ).bnd fun ds μ => if ds.length ≤ sizeLine then .ok (.tup ds) μ else .bad
/-- a list that will be changed -/
def mLstC (ms : Env → M (List D)) : EM := fun ρ => (ms ρ).bnd fun ds μ => if ds.length ≤ sizeLine then .ok (.obj μ.length) (μ ++ [.lst ds]) else .bad
section
variable {X : Cx} {W : WX} {pos : Pos} {e : Expr} {es : List Expr} {m : EM} {ms : Env → M (List D)}
theorem fa_nil : PA X [] (tA X.K W aNil) := pa_nil.imp fun σ H Q ⟨S, ρ, r, rs, p⟩ => p S H [] rfl r (Go.refl S H) rfl
theorem fa_cons (h : PE X e (tE X.K W m)) (t : PA X es (tA X.K W ms)) (hs : starEach (e :: es) X.env = (false, eval e X.env) :: starEach es X.env := by rfl) : PA X (e :: es) (tA X.K W (aCons m ms)) :=
  (pa_cons h t hs).imp fun σ H Q ⟨S, ρ, r, rs, p⟩ => ⟨S, ρ, r, rs, p.bind.imp fun v H1 ⟨S1, d, r1, g1, hv, p1⟩ => ⟨S1, ρ, r1, rs.go g1, p1.bind.imp fun vs H2 ⟨S2, ds, r2, g2, hvs, p2⟩ => p2 S2 H2 _ rfl r2 (Go.refl _ _) (RepL.cons (Rep.go hv g2) hvs)⟩⟩
theorem fe_lst (h : PA X es (tA X.K W ms)) : PE X (.List es pos) (tE X.K W (mLst ms)) :=
  (pe_lst h).imp fun σ H Q ⟨S, ρ, r, rs, p⟩ => ⟨S, ρ, r, rs, p.bind.imp fun vs H1 ⟨S1, ds, r1, g1, hv, p1⟩ => by
    by_cases hz : ds.length ≤ sizeLine
    · rw [if_pos hz] at p1
      exact ⟨by rw [hv.length]; exact hz, fun a ha => Pok.lst r1 p1 hv ha⟩
    · rw [if_neg hz] at p1; exact p1.elim⟩
theorem fe_tup {k : Nat} (h : PA X es (tA X.K W ms)) : PE X (.Tuple es k pos) (tE X.K W (mTup ms)) :=
  (pe_tup h).imp fun σ H Q ⟨S, ρ, r, rs, p⟩ => ⟨S, ρ, r, rs, p.bind.imp fun vs H1 ⟨S1, ds, r1, g1, hv, p1⟩ => by
    by_cases hz : ds.length ≤ sizeLine
    · rw [if_pos hz] at p1
      exact ⟨by rw [hv.length]; exact hz, fun a ha => Pok.tup r1 p1 hv ha⟩
    · rw [if_neg hz] at p1; exact p1.elim⟩
theorem fe_lstC (h : PA X es (tA X.K W ms)) : PE X (.List es pos) (tE X.K W (mLstC ms)) :=
  (pe_lst h).imp fun σ H Q ⟨S, ρ, r, rs, p⟩ => ⟨S, ρ, r, rs, p.bind.imp fun vs H1 ⟨S1, ds, r1, g1, hv, p1⟩ => by
    by_cases hz : ds.length ≤ sizeLine
    · rw [if_pos hz] at p1
      refine ⟨by rw [hv.length]; exact hz, fun a ha => ?_⟩
      have g := r1.goNew (o := .lst vs) (c := .lst ds) ha
      have hc : CellR X.K (S1.new a (.lst ds)) (.lst vs) (.lst ds) := RepL.go hv g
      exact p1 _ _ (.ref a) rfl (r1.new ha hc) g ⟨by show S1.μ.length < (S1.μ ++ [Cell.lst ds]).length; simp, by rw [S3.new_new]⟩
    · rw [if_neg hz] at p1; exact p1.elim⟩
end

/-! ### and, or, not, if; tests -/
def mB (m : EM) : Env → M Bool := fun ρ => (m ρ).bnd fun d => ofO (asB d)
def bAnd (a b : Env → M Bool) : Env → M Bool := fun ρ => (a ρ).bnd fun c => if c = true then b ρ else M.ret false
def bOr (a b : Env → M Bool) : Env → M Bool := fun ρ => (a ρ).bnd fun c => if c = true then M.ret true else b ρ
def bNot (a : Env → M Bool) : Env → M Bool := fun ρ => (a ρ).bnd fun c => M.ret (!c)
def mAnd (a b : EM) : EM := fun ρ => (a ρ).bnd fun d => match asB d with
  | some true => b ρ
  | some false => M.ret (.bl false)
  | none => M.bad
def mOr (a b : EM) : EM := fun ρ => (a ρ).bnd fun d => match asB d with
  | some true => M.ret (.bl true)
  | some false => b ρ
  | none => M.bad
def mNot (a : EM) : EM := fun ρ => (a ρ).bnd fun d => match asB d with
  | some c => M.ret (.bl (!c))
  | none => M.bad
def mIf (t : Env → M Bool) (a b : EM) : EM := fun ρ => (t ρ).bnd fun c => if c = true then a ρ else b ρ
theorem asB_some {d : D} {b : Bool} (h : asB d = some b) : d = .bl b := by
  cases d <;> cases h
  rfl
section
variable {X : Cx} {W : WX} {pos : Pos} {a b : Expr} {rest : List Expr} {ma mb : EM} {ta tb : Env → M Bool}
theorem mB_read {σ : St} {H : Hp} {Q : Bool → Hp → Prop} (h : tB X.K W (mB ma) σ H Q) : L2.tB (tE X.K W ma) σ H Q := by
  obtain ⟨S, ρ, r, rs, p⟩ := h
  refine ⟨S, ρ, r, rs, p.bind.imp fun v H1 ⟨S1, d, r1, g1, hv, p1⟩ => ?_⟩
  cases e : asB d with
  | none => rw [e] at p1; exact p1.elim
  | some c =>
    rw [e] at p1
    rw [asB_some e] at hv
    exact ⟨c, hv, p1 S1 H1 c rfl r1 (Go.refl _ _) rfl⟩
theorem fb_val (h : PE X a (tE X.K W ma)) (he : ∀ whole, isTrue a X.env whole = (do let v ← whole; standAt a.pos; holding [v] (truthy v)) := by intro _; rfl) : PT X a (tB X.K W (mB ma)) :=
  (pt_val h he).imp fun _ _ _ h => mB_read h
theorem fb_cmp {op : CmpOp} {f : Store → D → D → Option D} (ho : OpR X (compareOp op) (r2D X.K f)) (ha : PE X a (tE X.K W ma)) (hb : PE X b (tE X.K W mb)) (hm : behindInMarks op b = false := by first | exact nomark _ | rfl) : PT X (.Compare a [op] [b] pos) (tB X.K W (mB (mOp f ma mb))) :=
  (pt_cmpR ho ha hb hm).imp fun σ H Q h => by
    obtain ⟨S, ρ, r, rs, p⟩ := h
    refine mOp_read (X := X) (W := W) ⟨S, ρ, r, rs, p.bind.imp fun v H1 ⟨S1, d, r1, g1, hv, p1⟩ => ?_⟩
    cases e : asB d with
    | none => rw [e] at p1; exact p1.elim
    | some c =>
      rw [e] at p1
      rw [asB_some e] at hv
      exact ⟨c, hv, p1 S1 H1 c rfl r1 (Go.refl _ _) rfl⟩
theorem fw_and1 (h : PT X a (tB X.K W ta)) : PW X (.BoolOp .And [a] pos) (tB X.K W ta) := pw_and1 h
theorem fw_or1 (h : PT X a (tB X.K W ta)) : PW X (.BoolOp .Or [a] pos) (tB X.K W ta) := pw_or1 h
theorem fw_and (ha : PT X a (tB X.K W ta)) (hb : PW X (.BoolOp .And (b :: rest) pos) (tB X.K W tb)) : PW X (.BoolOp .And (a :: b :: rest) pos) (tB X.K W (bAnd ta tb)) :=
  (pw_and ha hb).imp fun σ H Q ⟨S, ρ, r, rs, p⟩ => ⟨S, ρ, r, rs, p.bind.imp fun v H1 ⟨S1, d, r1, g1, hv, p1⟩ => by
    cases hv
    cases v with
    | true => rw [if_pos rfl] at p1; rw [if_pos rfl]; exact ⟨S1, ρ, r1, rs.go g1, p1⟩
    | false => rw [if_neg (by decide)] at p1; rw [if_neg (by decide)]; exact p1 S1 H1 false rfl r1 (Go.refl _ _) rfl⟩
theorem fw_or (ha : PT X a (tB X.K W ta)) (hb : PW X (.BoolOp .Or (b :: rest) pos) (tB X.K W tb)) : PW X (.BoolOp .Or (a :: b :: rest) pos) (tB X.K W (bOr ta tb)) :=
  (pw_or ha hb).imp fun σ H Q ⟨S, ρ, r, rs, p⟩ => ⟨S, ρ, r, rs, p.bind.imp fun v H1 ⟨S1, d, r1, g1, hv, p1⟩ => by
    cases hv
    cases v with
    | false => rw [if_neg (by decide)] at p1; rw [if_neg (by decide)]; exact ⟨S1, ρ, r1, rs.go g1, p1⟩
    | true => rw [if_pos rfl] at p1; rw [if_pos rfl]; exact p1 S1 H1 true rfl r1 (Go.refl _ _) rfl⟩
theorem fb_not (ha : PT X a (tB X.K W ta)) : PT X (.UnaryOp .Not a pos) (tB X.K W (bNot ta)) :=
  (pt_not ha).imp fun σ H Q ⟨S, ρ, r, rs, p⟩ => ⟨S, ρ, r, rs, p.bind.imp fun v H1 ⟨S1, d, r1, g1, hv, p1⟩ => by
    cases hv
    exact p1 S1 H1 _ rfl r1 (Go.refl _ _) rfl⟩
theorem fe_and (ha : PE X a (tE X.K W ma)) (hb : PE X (.BoolOp .And (b :: rest) pos) (tE X.K W mb)) : PE X (.BoolOp .And (a :: b :: rest) pos) (tE X.K W (mAnd ma mb)) :=
  (pe_and ha hb).imp fun σ H Q ⟨S, ρ, r, rs, p⟩ => ⟨S, ρ, r, rs, p.bind.imp fun v H1 ⟨S1, d, r1, g1, hv, p1⟩ => by
    cases e : asB d with
    | none => rw [e] at p1; exact p1.elim
    | some c =>
      rw [e] at p1
      rw [asB_some e] at hv
      refine ⟨c, hv, ?_⟩
      cases c with
      | true => rw [if_pos rfl]; exact ⟨S1, ρ, r1, rs.go g1, p1⟩
      | false => rw [if_neg (by decide)]; exact p1 S1 H1 _ rfl r1 (Go.refl _ _) rfl⟩
theorem fe_or (ha : PE X a (tE X.K W ma)) (hb : PE X (.BoolOp .Or (b :: rest) pos) (tE X.K W mb)) : PE X (.BoolOp .Or (a :: b :: rest) pos) (tE X.K W (mOr ma mb)) :=
  (pe_or ha hb).imp fun σ H Q ⟨S, ρ, r, rs, p⟩ => ⟨S, ρ, r, rs, p.bind.imp fun v H1 ⟨S1, d, r1, g1, hv, p1⟩ => by
    cases e : asB d with
    | none => rw [e] at p1; exact p1.elim
    | some c =>
      rw [e] at p1
      rw [asB_some e] at hv
      refine ⟨c, hv, ?_⟩
      cases c with
      | false => rw [if_neg (by decide)]; exact ⟨S1, ρ, r1, rs.go g1, p1⟩
      | true => rw [if_pos rfl]; exact p1 S1 H1 _ rfl r1 (Go.refl _ _) rfl⟩
theorem fe_one {op : BoolOp} (ha : PE X a (tE X.K W ma)) : PE X (.BoolOp op [a] pos) (tE X.K W ma) := pe_one ha
theorem fe_not (ha : PE X a (tE X.K W ma)) : PE X (.UnaryOp .Not a pos) (tE X.K W (mNot ma)) :=
  (pe_not ha).imp fun σ H Q ⟨S, ρ, r, rs, p⟩ => ⟨S, ρ, r, rs, p.bind.imp fun v H1 ⟨S1, d, r1, g1, hv, p1⟩ => by
    cases e : asB d with
    | none => rw [e] at p1; exact p1.elim
    | some c =>
      rw [e] at p1
      rw [asB_some e] at hv
      exact ⟨c, hv, p1 S1 H1 _ rfl r1 (Go.refl _ _) rfl⟩⟩
theorem fe_if {c : Expr} (hc : PT X c (tB X.K W ta)) (ha : PE X a (tE X.K W ma)) (hb : PE X b (tE X.K W mb)) : PE X (.IfExp c a b pos) (tE X.K W (mIf ta ma mb)) :=
  (pe_ifExp hc ha hb).imp fun σ H Q ⟨S, ρ, r, rs, p⟩ => ⟨S, ρ, r, rs, p.bind.imp fun v H1 ⟨S1, d, r1, g1, hv, p1⟩ => by
    cases hv
    cases v with
    | true => rw [if_pos rfl] at p1; rw [if_pos rfl]; exact ⟨S1, ρ, r1, rs.go g1, p1⟩
    | false => rw [if_neg (by decide)] at p1; rw [if_neg (by decide)]; exact ⟨S1, ρ, r1, rs.go g1, p1⟩⟩
/-- a < b < c -/
def mChain (f g : Store → D → D → Option D) (ma mb mc : EM) : EM := fun ρ => (ma ρ).bnd fun x => (mb ρ).bnd fun y μ => match f μ x y with
  | some (.bl true) => (mc ρ).bnd (fun z μ => match g μ y z with
    | some d => .ok d μ
    | none => .bad) μ
  | some (.bl false) => .ok (.bl false) μ
  | _ => .bad
theorem mChain_read {f g : Store → D → D → Option D} {mc : EM} {σ : St} {H : Hp} {Q : VK} (h : tE X.K W (mChain f g ma mb mc) σ H Q) : tChain (r2D X.K f) (r2D X.K g) (tE X.K W ma) (tE X.K W mb) (tE X.K W mc) σ H Q := by
  obtain ⟨S, ρ, r, rs, p⟩ := h
  refine ⟨S, ρ, r, rs, p.bind.imp fun v H1 ⟨S1, d, r1, g1, hv, p1⟩ => ?_⟩
  refine ⟨S1, ρ, r1, rs.go g1, p1.bind.imp fun v2 H2 ⟨S2, d2, r2, g2, hv2, p2⟩ => ?_⟩
  refine ⟨S2, d, d2, ?_⟩
  cases e : f S2.μ d d2 with
  | none => rw [e] at p2; exact p2.elim
  | some d3 =>
    rw [e] at p2
    refine ⟨d3, r2, Rep.go hv g2, hv2, rfl, fun S3 H3 z e3 r3 g3 hz => ?_⟩
    cases d3 with
    | bl b =>
      refine ⟨b, hz, ?_⟩
      cases b with
      | false =>
        rw [if_neg (by decide)]
        exact p2 S3 H3 _ e3 r3 g3 rfl
      | true =>
        rw [if_pos rfl]
        have p3 := PostG.go g3 p2
        rw [← e3] at p3
        refine ⟨S3, ρ, r3, ((rs.go g1).go g2).go g3, p3.bind.imp fun v4 H4 ⟨S4, d4, r4, g4, hv4, p4⟩ => ?_⟩
        refine ⟨S4, d2, d4, ?_⟩
        cases e4 : g S4.μ d2 d4 with
        | none => rw [e4] at p4; exact p4.elim
        | some d5 => rw [e4] at p4; exact ⟨d5, r4, Rep.go (Rep.go hv2 g3) g4, hv4, rfl, p4⟩
    | _ => exact p2.elim
theorem fe_chain {c : Expr} {mc : EM} {op op' : CmpOp} {f g : Store → D → D → Option D} (ho : OpR X (compareOp op) (r2D X.K f)) (ho' : OpR X (compareOp op') (r2D X.K g)) (ha : PE X a (tE X.K W ma)) (hb : PE X b (tE X.K W mb)) (hc : PE X c (tE X.K W mc))
    (hm : lastMarks [op, op'] [b, c] = false := by with_unfolding_all rfl) : PE X (.Compare a [op, op'] [b, c] pos) (tE X.K W (mChain f g ma mb mc)) :=
  (pe_chain ho ho' ha hb hc hm).imp fun _ _ _ h => mChain_read h
theorem fb_chain {c : Expr} {mc : EM} {op op' : CmpOp} {f g : Store → D → D → Option D} (ho : OpR X (compareOp op) (r2D X.K f)) (ho' : OpR X (compareOp op') (r2D X.K g)) (ha : PE X a (tE X.K W ma)) (hb : PE X b (tE X.K W mb)) (hc : PE X c (tE X.K W mc))
    (hm : lastMarks [op, op'] [b, c] = false := by with_unfolding_all rfl) : PT X (.Compare a [op, op'] [b, c] pos) (tB X.K W (mB (mChain f g ma mb mc))) :=
  (pt_chain ho ho' ha hb hc hm).imp fun σ H Q h => by
    obtain ⟨S, ρ, r, rs, p⟩ := h
    refine mChain_read (X := X) (W := W) ⟨S, ρ, r, rs, p.bind.imp fun v H1 ⟨S1, d, r1, g1, hv, p1⟩ => ?_⟩
    cases e : asB d with
    | none => rw [e] at p1; exact p1.elim
    | some c =>
      rw [e] at p1
      rw [asB_some e] at hv
      exact ⟨c, hv, p1 S1 H1 c rfl r1 (Go.refl _ _) rfl⟩
end

/-! ### places and slices -/
def dIx (μ : Store) (x y : D) : Option D := match y with
  | .int i => (match x with
    | .tup ds => atI ds i
    | .str z => if z.length ≤ sizeLine then (atI z.cps.toList i).map fun c => .str ⟨#[c]⟩ else none
    | x => match asLR μ x with
      | some ds => atI ds i
      | none => none)
  | _ => none
def cutD (ds : List D) (lo hi : Option Int) : List D := (ds.drop (HT.sIx ds.length 0 lo)).take (HT.sIx ds.length ds.length hi - HT.sIx ds.length 0 lo)
def dSl (μ : Store) (x : D) (lo hi : Option Int) : Option D := match x with
  | .tup ds => some (.tup (cutD ds lo hi))
  | .str z => if z.length ≤ sizeLine then some (.str (cutS z lo hi)) else none
  | x => match asLR μ x with
    | some ds => some (.lst (cutD ds lo hi))
    | none => none
def oNone : Env → M (Option Int) := fun _ => M.ret none
def oSome (m : EM) : Env → M (Option Int) := fun ρ => (m ρ).bnd fun d => ofO ((asI d).map some)
def mSl (m : EM) (lo hi : Env → M (Option Int)) : EM := fun ρ => (m ρ).bnd fun x => (lo ρ).bnd fun l => (hi ρ).bnd fun h μ => match dSl μ x l h with
  | some d => .ok d μ
  | none => .bad
abbrev RO : S3 → Option Int → Option Int → Prop := fun _ b c => b = c
abbrev tO (K : PySem.W.Frag) (W : WX) (m : Env → M (Option Int)) : TO := tG K RO W m
section
variable {X : Cx} {W : WX} {pos p2 : Pos} {a b : Expr} {ma mb : EM}
theorem atI_rep {K : PySem.W.Frag} {S : S3} {xs : List V} {ds : List D} {i : Int} {d : D} (h : RepL K S xs ds) (e : atI ds i = some d) : ∃ x, atI xs i = some x ∧ Rep K S x d := by
  unfold atI at e ⊢
  rw [h.length]
  cases q : ixN ds.length i with
  | none => rw [q] at e; cases e
  | some j => rw [q] at e; exact h.getD e
theorem ix_D : IxR X (r2D X.K dIx) := by
  intro value slice pins s σ H x y u v Q I rx ry h hs
  obtain ⟨S, dx, dy, d, r, hx, hy, e, p⟩ := h
  cases dy with
  | int i =>
    have ey : y = .int i := hy
    subst ey
    have lists : (match asLR S.μ dx with
      | some ds => atI ds i
      | none => none) = some d → wpAny (model X.prog X.w) X.A (PyProof.Rows.subscriptTail value slice u v) (EP X pins σ Q) X.xe s := fun e => by
      cases e1 : asLR S.μ dx with
      | none => rw [e1] at e; cases e
      | some ds =>
        rw [e1] at e
        obtain ⟨l, xs, rfl, k1, k2⟩ := lstR_at r hx e1
        obtain ⟨z, z1, z2⟩ := atI_rep k2 e
        exact ix_list value slice pins s σ H _ _ u v Q I rx ry ⟨l, xs, i, z, rfl, rfl, k1, z1, p.now r z2⟩ hs
    cases dx with
    | tup ds =>
      obtain ⟨l, xs, rfl, k1, k2⟩ := tup_at r hx
      obtain ⟨z, z1, z2⟩ := atI_rep k2 (show atI ds i = some d from e)
      exact ix_tup value slice pins s σ H _ _ u v Q I rx ry ⟨l, xs, i, z, rfl, rfl, sqT_of k1, z1, p.now r z2⟩ hs
    | str z =>
      have ex : x = .str z := hx
      subst ex
      unfold dIx at e
      simp only at e
      split at e
      · rename_i hz
        cases q : atI z.cps.toList i with
        | none => rw [q] at e; cases e
        | some c =>
          rw [q] at e
          cases e
          exact ix_str value slice pins s σ H _ _ u v Q I rx ry ⟨z, i, c, rfl, rfl, hz, q, p.now r rfl⟩ hs
      · cases e
    | _ => exact lists e
  | _ => cases e
theorem fe_ix (ha : PE X a (tE X.K W ma)) (hb : PE X b (tE X.K W mb)) (hs : PlainIx b := by intro _ _; rfl) : PE X (.Subscript a b pos) (tE X.K W (mOp dIx ma mb)) :=
  (pe_ix ix_D ha hb hs).imp fun _ _ _ h => mOp_read h
def rSlD (K : PySem.W.Frag) : V → Option Int → Option Int → Hp → VK → Prop := fun x lo hi H Q => ∃ S dx d, Rel K S H ∧ Rep K S x dx ∧ dSl S.μ dx lo hi = some d ∧ Pok K S H d S.μ Q
theorem cut_all {n : Nat} {ds : List D} {lo hi : Option Int} (h : HT.sIx ds.length 0 lo = 0 ∧ HT.sIx ds.length ds.length hi = ds.length) : cutD ds lo hi = ds := by
  unfold cutD
  rw [h.1, h.2]
  simp
theorem sl_D : SlR X (rSlD X.K) := by
  intro pins s σ H x v vl vu lo hi sl Q I rx hs pl pu h
  obtain ⟨S, dx, d, r, hx, e, p⟩ := h
  have lists : (match asLR S.μ dx with
    | some ds => some (D.lst (cutD ds lo hi))
    | none => none) = some d → ∃ T id, typeLookup (.type T) "__getitem__" = pure (some (.builtin id)) ∧ s.TypeIs v T ∧ wpAny (model X.prog X.w) X.A (getItem v (.ref sl)) (EP X pins σ Q) X.xe s := fun e => by
    cases e1 : asLR S.μ dx with
    | none => rw [e1] at e; cases e
    | some ds =>
      rw [e1] at e
      cases e
      obtain ⟨l, xs, rfl, k1, k2⟩ := lstR_at r hx e1
      exact sl_list pins s σ H _ v vl vu lo hi sl Q I rx hs pl pu ⟨l, xs, rfl, k1, fun q hq => p.lst r (k2.cut lo hi) hq⟩
  cases dx with
  | tup ds =>
    cases e
    obtain ⟨l, xs, rfl, k1, k2⟩ := tup_at r hx
    refine sl_tupA pins s σ H _ v vl vu lo hi sl Q I rx hs pl pu ⟨l, xs, rfl, sqT_of k1, fun hw => ?_, fun _ q hq => p.tup r (k2.cut lo hi) hq⟩
    rw [k2.length] at hw
    rw [cut_all (n := 0) hw] at p
    exact p.now r hx
  | str z =>
    have ex : x = .str z := hx
    subst ex
    unfold dSl at e
    simp only at e
    split at e
    · rename_i hz
      cases e
      exact sl_str pins s σ H _ v vl vu lo hi sl Q I rx hs pl pu ⟨z, rfl, hz, p.now r rfl⟩
    · cases e
  | _ => exact lists e
theorem fo_none : PO X none (tO X.K W oNone) := ⟨fun pins s σ H Q I ⟨S, ρ, r, rs, p⟩ => po_none.run pins s σ H Q I (p S H none rfl r (Go.refl _ _) rfl)⟩
theorem fo_some (h : PE X a (tE X.K W ma)) : PO X (some a) (tO X.K W (oSome ma)) := ⟨fun pins s σ H Q I ⟨S, ρ, r, rs, p⟩ => (po_some h).run pins s σ H Q I ⟨S, ρ, r, rs, p.bind.imp fun v H1 ⟨S1, d, r1, g1, hv, p1⟩ => by
  cases d with
  | int i => exact ⟨i, hv, p1 S1 H1 _ rfl r1 (Go.refl _ _) rfl⟩
  | _ => exact p1.elim⟩⟩
theorem fe_sl {lo hi : Option Expr} {ml mh : Env → M (Option Int)} (ha : PE X a (tE X.K W ma)) (hl : PO X lo (tO X.K W ml)) (hh : PO X hi (tO X.K W mh)) : PE X (.Subscript a (.Slice lo hi none p2) pos) (tE X.K W (mSl ma ml mh)) :=
  (pe_slice sl_D ha hl hh).imp fun σ H Q ⟨S, ρ, r, rs, p⟩ => ⟨S, ρ, r, rs, p.bind.imp fun v H1 ⟨S1, d, r1, g1, hv, p1⟩ =>
    ⟨S1, ρ, r1, rs.go g1, p1.bind.imp fun l H2 ⟨S2, d2, r2, g2, hv2, p2⟩ => ⟨S2, ρ, r2, (rs.go g1).go g2, p2.bind.imp fun h3 H3 ⟨S3, d3, r3, g3, hv3, p3⟩ => by
      cases hv2
      cases hv3
      cases e : dSl S3.μ d l h3 with
      | none => rw [e] at p3; exact p3.elim
      | some d4 => rw [e] at p3; exact ⟨S3, d, d4, r3, Rep.go (Rep.go hv g2) g3, e, p3⟩⟩⟩⟩
end
end FL

namespace FL
open PySem L2
/-! ### calls of built-ins -/
def rND (K : PySem.W.Frag) (f : Store → List D → Option D) : List V → Hp → VK → Prop := fun xs H Q => ∃ S ds d, Rel K S H ∧ RepL K S xs ds ∧ f S.μ ds = some d ∧ Pok K S H d S.μ Q
def mCall (f : Store → List D → Option D) (ms : Env → M (List D)) : EM := fun ρ => (ms ρ).bnd fun ds μ => match f μ ds with
  | some d => .ok d μ
  | none => .bad
section
variable {X : Cx} {W : WX} {x : Str} {p pos : Pos} {e : Expr} {es : List Expr} {ms : Env → M (List D)} {f : Store → List D → Option D} {id T : String}
theorem mCall_read {σ : St} {H : Hp} {Q : VK} (h : tE X.K W (mCall f ms) σ H Q) : tCB (rND X.K f) (tA X.K W ms) σ H Q := by
  obtain ⟨S, ρ, r, rs, p⟩ := h
  refine ⟨S, ρ, r, rs, p.bind.imp fun v H1 ⟨S1, d, r1, g1, hv, p1⟩ => ?_⟩
  cases e : f S1.μ d with
  | none => rw [e] at p1; exact p1.elim
  | some d3 => rw [e] at p1; exact ⟨S1, d, d3, r1, hv, e, p1⟩
theorem fe_callB (hc : CallR X (.builtin id) (rND X.K f)) (hg : Gl X x) (hm : X.mg x = none) (hv : bootBuiltins x = some (.builtin id)) (ha : PA X (e :: es) (tA X.K W ms)) (hn : x ≠ "__name__" := by decide) (hdb : (x == ("__debug__" : Str)) = false := by decide)
    (he : starEach (e :: es) X.env = (false, eval e X.env) :: starEach es X.env := by rfl) (hpl : (backTo pos (starEach es X.env)).any (·.1) = false := by rfl) : PE X (.Call (.Name x p) (e :: es) [] pos) (tE X.K W (mCall f ms)) :=
  (pe_callB hc hg hm hv ha hn hdb he hpl).imp fun _ _ _ h => mCall_read h
theorem fe_callTy (hc : CallR X (.type T) (rND X.K f)) (hg : Gl X x) (hm : X.mg x = none) (hv : bootBuiltins x = some (.type T)) (ha : PA X (e :: es) (tA X.K W ms)) (hn : x ≠ "__name__" := by decide) (hdb : (x == ("__debug__" : Str)) = false := by decide)
    (he : starEach (e :: es) X.env = (false, eval e X.env) :: starEach es X.env := by rfl) (hpl : (backTo pos (starEach es X.env)).any (·.1) = false := by rfl) : PE X (.Call (.Name x p) (e :: es) [] pos) (tE X.K W (mCall f ms)) :=
  (pe_callTy hc hg hm hv ha hn hdb he hpl).imp fun _ _ _ h => mCall_read h
end
/-- one argument, two -/
def on1 (f : Store → D → Option D) : Store → List D → Option D := fun μ ds => match ds with
  | [d] => f μ d
  | _ => none
def on2 (f : Store → D → D → Option D) : Store → List D → Option D := fun μ ds => match ds with
  | [d, d'] => f μ d d'
  | _ => none
theorem on1_some {f : Store → D → Option D} {μ : Store} {ds : List D} {d : D} (h : on1 f μ ds = some d) : ∃ z, ds = [z] ∧ f μ z = some d := by
  unfold on1 at h
  split at h
  · exact ⟨_, rfl, h⟩
  · cases h
theorem on2_some {f : Store → D → D → Option D} {μ : Store} {ds : List D} {d : D} (h : on2 f μ ds = some d) : ∃ z w, ds = [z, w] ∧ f μ z w = some d := by
  unfold on2 at h
  split at h
  · exact ⟨_, _, rfl, h⟩
  · cases h
section
variable {K : PySem.W.Frag} {S : S3}
theorem repL1 {xs : List V} {d : D} (h : RepL K S xs [d]) : ∃ x, xs = [x] ∧ Rep K S x d := by
  obtain ⟨x, r, e, h1, h2⟩ := h
  rw [show r = [] from h2] at e
  exact ⟨x, e, h1⟩
theorem repL2 {xs : List V} {d d' : D} (h : RepL K S xs [d, d']) : ∃ x y, xs = [x, y] ∧ Rep K S x d ∧ Rep K S y d' := by
  obtain ⟨x, r, e, h1, h2⟩ := h
  obtain ⟨y, e2, h3⟩ := repL1 h2
  rw [e2] at e
  exact ⟨x, y, e, h1, h3⟩
end
/-! #### what they mean -/
def asInts : List D → Option (List Int) := fun ds => seqO (ds.map asI)
def asStrs : List D → Option (List Str) := fun ds => seqO (ds.map asS)
def asBls : List D → Option (List Bool) := fun ds => seqO (ds.map asB)
theorem seqO_map {α : Type} {g : α → D} {f : D → Option α} (hf : ∀ d a, f d = some a → d = g a) : ∀ {ds : List D} {l : List α}, seqO (ds.map f) = some l → ds = l.map g
  | [], l, h => by cases h; rfl
  | d :: ds, l, h => by
    rw [List.map_cons] at h
    cases e : f d with
    | none => rw [e] at h; cases h
    | some a =>
      rw [e] at h
      unfold seqO at h
      cases e2 : seqO (ds.map f) with
      | none => rw [e2] at h; cases h
      | some l' =>
        rw [e2] at h
        cases h
        rw [hf d a e, seqO_map hf e2]
        rfl
theorem asI_some {d : D} {i : Int} (h : asI d = some i) : d = .int i := by cases d <;> cases h; rfl
theorem asS_some {d : D} {i : Str} (h : asS d = some i) : d = .str i := by cases d <;> cases h; rfl
theorem asInts_some {ds : List D} {l : List Int} (h : asInts ds = some l) : ds = l.map D.int := seqO_map (fun _ _ => asI_some) h
theorem asStrs_some {ds : List D} {l : List Str} (h : asStrs ds = some l) : ds = l.map D.str := seqO_map (fun _ _ => asS_some) h
theorem asBls_some {ds : List D} {l : List Bool} (h : asBls ds = some l) : ds = l.map D.bl := seqO_map (fun _ _ => asB_some) h
def cellK (μ : Store) (n : Nat) : Option (List (Key × D)) := match μ[n]? with
  | some (.dct ds) => some ds
  | _ => none
theorem cellK_some {μ : Store} {n : Nat} {ds : List (Key × D)} (h : cellK μ n = some ds) : μ[n]? = some (.dct ds) := by
  unfold cellK at h
  split at h
  · cases h; assumption
  · cases h
def asK (μ : Store) : D → Option (List (Key × D))
  | .dct kvs => some kvs
  | .obj n => cellK μ n
  | _ => none
abbrev RepK (K : PySem.W.Frag) (S : S3) (ps : List (Key × V)) (kvs : List (Key × D)) : Prop := RepIK K S.ι S.μ.length S.G ps kvs
section
variable {K : PySem.W.Frag} {S : S3} {H : Hp}
theorem RepK.length : ∀ {ds : List (Key × D)} {xs : List (Key × V)}, RepK K S xs ds → xs.length = ds.length
  | [], _, h => by rw [show _ = [] from h]; rfl
  | (k, d) :: ds, _, ⟨x, r, e, _, h⟩ => by rw [e, List.length_cons, List.length_cons, RepK.length h]
theorem dct_at (r : Rel K S H) {v : V} {d : D} {kvs : List (Key × D)} (h : Rep K S v d) (e : asK S.μ d = some kvs) : ∃ a ps, v = .ref a ∧ H a = some (.dK ps) ∧ RepK K S ps kvs := by
  cases d with
  | dct es =>
    obtain ⟨a, xs, e1, h1, h2⟩ := h
    cases e
    exact ⟨a, xs, e1, r.gh _ _ h1, h2⟩
  | obj n =>
    obtain ⟨hn, e1⟩ := h
    have q : S.μ[n]? = some (.dct kvs) := cellK_some e
    obtain ⟨_, o, ho, hc⟩ := r.cell n _ q
    cases o with
    | dK xs => exact ⟨_, xs, e1, ho, hc⟩
    | _ => exact hc.elim
  | _ => cases e
end
def dLen (μ : Store) (d : D) : Option D := match d with
  | .str z => if z.length ≤ sizeLine then some (.int z.length) else none
  | .tup ds => some (.int ds.length)
  | d => match asLR μ d with
    | some ds => some (.int ds.length)
    | none => match asK μ d with
      | some ds => some (.int ds.length)
      | none => none
def dAbs (_ : Store) (d : D) : Option D := (asI d).map fun i => .int (if i < 0 then -i else i)
def dInt (_ : Store) (d : D) : Option D := match d with
  | .int i => some (.int i)
  | .bl b => some (.int (if b then 1 else 0))
  | _ => none
def dMax2 (_ : Store) (x y : D) : Option D := match x, y with
  | .int i, .int j => some (.int (if j > i then j else i))
  | _, _ => none
def dMin2 (_ : Store) (x y : D) : Option D := match x, y with
  | .int i, .int j => some (.int (if j < i then j else i))
  | _, _ => none
def dSum (μ : Store) (d : D) : Option D := match asLR μ d with
  | some ds => (asInts ds).map fun ns => .int ns.sum
  | none => none
def dAll (μ : Store) (d : D) : Option D := match asLR μ d with
  | some ds => (asBls ds).map fun ns => .bl (ns.all id)
  | none => none
def dAny (μ : Store) (d : D) : Option D := match asLR μ d with
  | some ds => (asBls ds).map fun ns => .bl (ns.any id)
  | none => none
def dTuple (μ : Store) (d : D) : Option D := match d with
  | .tup ds => some (.tup ds)
  | d => match asLR μ d with
    | some ds => some (.tup ds)
    | none => none
def dList (μ : Store) (d : D) : Option D := match d with
  | .tup ds => some (.lst ds)
  | d => match asLR μ d with
    | some ds => some (.lst ds)
    | none => none
section
variable {X : Cx}
theorem cr_len : CallR X (.builtin "len") (rND X.K (on1 dLen)) := by
  intro pins s σ H xs us Q I rv h
  obtain ⟨S, ds, d, r, hx, e0, p⟩ := h
  obtain ⟨z, rfl, e⟩ := on1_some e0
  clear e0
  obtain ⟨x, rfl, hz⟩ := repL1 hx
  have rest : (match asLR S.μ z with
    | some ds => some (D.int ds.length)
    | none => match asK S.μ z with
      | some ds => some (.int ds.length)
      | none => none) = some d → wpAny (model X.prog X.w) X.A (call (.builtin "len") us) (EP X pins σ Q) X.xe s := fun e => by
    cases e1 : asLR S.μ z with
    | some ds =>
      rw [e1] at e
      cases e
      obtain ⟨l, ys, rfl, k1, k2⟩ := lstR_at r hz e1
      refine call_len pins s σ H _ us Q I rv ⟨_, ds.length, rfl, .inl ⟨ys, k1, k2.length.symm⟩, p.now r rfl⟩
    | none =>
      rw [e1] at e
      cases e2 : asK S.μ z with
      | none => rw [e2] at e; cases e
      | some kvs =>
        rw [e2] at e
        cases e
        obtain ⟨l, ps, rfl, k1, k2⟩ := dct_at r hz e2
        refine call_lenD pins s σ H _ us Q I rv ⟨l, ps, rfl, k1, ?_⟩
        rw [k2.length]
        exact p.now r rfl
  cases z with
  | str z =>
    have ex : x = .str z := hz
    subst ex
    unfold dLen at e
    simp only at e
    split at e
    · rename_i hl
      cases e
      exact call_len pins s σ H _ us Q I rv ⟨_, z.length, rfl, ⟨hl, rfl⟩, p.now r rfl⟩
    · cases e
  | tup ds =>
    cases e
    obtain ⟨l, ys, rfl, k1, k2⟩ := tup_at r hz
    exact call_len pins s σ H _ us Q I rv ⟨_, ds.length, rfl, .inr ⟨ys, sqT_of k1, k2.length.symm⟩, p.now r rfl⟩
  | _ => exact rest e
theorem cr_abs : CallR X (.builtin "abs") (rND X.K (on1 dAbs)) := by
  intro pins s σ H xs us Q I rv h
  obtain ⟨S, ds, d, r, hx, e0, p⟩ := h
  obtain ⟨z, rfl, e⟩ := on1_some e0
  clear e0
  obtain ⟨x, rfl, hz⟩ := repL1 hx
  cases z with
  | int i =>
    cases e
    have ex : x = .int i := hz
    subst ex
    exact call_abs pins s σ H _ us Q I rv ⟨i, rfl, p.now r rfl⟩
  | _ => cases e
theorem cr_int : CallR X (.type "int") (rND X.K (on1 dInt)) := by
  intro pins s σ H xs us Q I rv h
  obtain ⟨S, ds, d, r, hx, e0, p⟩ := h
  obtain ⟨z, rfl, e⟩ := on1_some e0
  clear e0
  obtain ⟨x, rfl, hz⟩ := repL1 hx
  cases z with
  | int i =>
    cases e
    have ex : x = .int i := hz
    subst ex
    exact call_int1 pins s σ H _ us Q I rv (.inl ⟨i, rfl, p.now r rfl⟩)
  | bl b =>
    cases e
    have ex : x = .bl b := hz
    subst ex
    exact call_int1 pins s σ H _ us Q I rv (.inr ⟨b, rfl, p.now r rfl⟩)
  | _ => cases e
theorem cr_max2 (hc : X.calm = true) : CallR X (.builtin "max") (rND X.K (on2 dMax2)) := by
  intro pins s σ H xs us Q I rv h
  obtain ⟨S, ds, d, r, hx, e0, p⟩ := h
  obtain ⟨z, w, rfl, e⟩ := on2_some e0
  clear e0
  obtain ⟨x, y, rfl, hz, hw⟩ := repL2 hx
  cases z with
  | int i =>
    cases w with
    | int j =>
      cases e
      have ex : x = .int i := hz
      have ey : y = .int j := hw
      subst ex ey
      exact call_max2 hc pins s σ H _ us Q I rv ⟨i, j, rfl, p.now r rfl⟩
    | _ => cases e
  | _ => cases w <;> cases e
theorem cr_min2 (hc : X.calm = true) : CallR X (.builtin "min") (rND X.K (on2 dMin2)) := by
  intro pins s σ H xs us Q I rv h
  obtain ⟨S, ds, d, r, hx, e0, p⟩ := h
  obtain ⟨z, w, rfl, e⟩ := on2_some e0
  clear e0
  obtain ⟨x, y, rfl, hz, hw⟩ := repL2 hx
  cases z with
  | int i =>
    cases w with
    | int j =>
      cases e
      have ex : x = .int i := hz
      have ey : y = .int j := hw
      subst ex ey
      exact call_min2 hc pins s σ H _ us Q I rv ⟨i, j, rfl, p.now r rfl⟩
    | _ => cases e
  | _ => cases w <;> cases e
theorem cr_sumD (hc : X.calm = true) : CallR X (.builtin "sum") (rND X.K (on1 dSum)) := by
  intro pins s σ H xs us Q I rv h
  obtain ⟨S, ds, d, r, hx, e0, p⟩ := h
  obtain ⟨z, rfl, e⟩ := on1_some e0
  clear e0
  obtain ⟨x, rfl, hz⟩ := repL1 hx
  unfold dSum at e
  cases e1 : asLR S.μ z with
  | none => rw [e1] at e; cases e
  | some ds =>
    rw [e1] at e
    cases e2 : asInts ds with
    | none => simp only [e2] at e; cases e
    | some ns =>
      simp only [e2] at e
      cases e
      obtain ⟨l, ys, rfl, k1, k2⟩ := lstR_at r hz e1
      rw [asInts_some e2] at k2
      rw [k2.ints] at k1
      exact L2.cr_sum hc pins s σ H _ us Q I rv ⟨l, ns, rfl, k1, p.now r rfl⟩
theorem cr_allD (hc : X.calm = true) : CallR X (.builtin "all") (rND X.K (on1 dAll)) := by
  intro pins s σ H xs us Q I rv h
  obtain ⟨S, ds, d, r, hx, e0, p⟩ := h
  obtain ⟨z, rfl, e⟩ := on1_some e0
  clear e0
  obtain ⟨x, rfl, hz⟩ := repL1 hx
  unfold dAll at e
  cases e1 : asLR S.μ z with
  | none => rw [e1] at e; cases e
  | some ds =>
    rw [e1] at e
    cases e2 : asBls ds with
    | none => simp only [e2] at e; cases e
    | some ns =>
      simp only [e2] at e
      cases e
      obtain ⟨l, ys, rfl, k1, k2⟩ := lstR_at r hz e1
      rw [asBls_some e2] at k2
      rw [k2.bls] at k1
      exact L2.cr_all hc pins s σ H _ us Q I rv ⟨l, ns, rfl, k1, p.now r rfl⟩
theorem cr_anyD (hc : X.calm = true) : CallR X (.builtin "any") (rND X.K (on1 dAny)) := by
  intro pins s σ H xs us Q I rv h
  obtain ⟨S, ds, d, r, hx, e0, p⟩ := h
  obtain ⟨z, rfl, e⟩ := on1_some e0
  clear e0
  obtain ⟨x, rfl, hz⟩ := repL1 hx
  unfold dAny at e
  cases e1 : asLR S.μ z with
  | none => rw [e1] at e; cases e
  | some ds =>
    rw [e1] at e
    cases e2 : asBls ds with
    | none => simp only [e2] at e; cases e
    | some ns =>
      simp only [e2] at e
      cases e
      obtain ⟨l, ys, rfl, k1, k2⟩ := lstR_at r hz e1
      rw [asBls_some e2] at k2
      rw [k2.bls] at k1
      exact L2.cr_any hc pins s σ H _ us Q I rv ⟨l, ns, rfl, k1, p.now r rfl⟩
theorem cr_tuple : CallR X (.type "tuple") (rND X.K (on1 dTuple)) := by
  intro pins s σ H xs us Q I rv h
  obtain ⟨S, ds, d, r, hx, e0, p⟩ := h
  obtain ⟨z, rfl, e⟩ := on1_some e0
  clear e0
  obtain ⟨x, rfl, hz⟩ := repL1 hx
  have rest : (match asLR S.μ z with
    | some ds => some (D.tup ds)
    | none => none) = some d → wpAny (model X.prog X.w) X.A (call (.type "tuple") us) (EP X pins σ Q) X.xe s := fun e => by
    cases e1 : asLR S.μ z with
    | none => rw [e1] at e; cases e
    | some ds =>
      rw [e1] at e
      cases e
      obtain ⟨l, ys, rfl, k1, k2⟩ := lstR_at r hz e1
      exact call_tuple_of pins s σ H _ us Q I rv ⟨l, ys, rfl, .inl ⟨k1, fun q hq => p.tup r k2 hq⟩⟩
  cases z with
  | tup ds =>
    cases e
    obtain ⟨l, ys, e2, k1, k2⟩ := tup_at r hz
    subst e2
    exact call_tuple_of pins s σ H _ us Q I rv ⟨l, ys, rfl, .inr ⟨sqT_of k1, p.now r hz⟩⟩
  | _ => exact rest e
theorem cr_list : CallR X (.type "list") (rND X.K (on1 dList)) := by
  intro pins s σ H xs us Q I rv h
  obtain ⟨S, ds, d, r, hx, e0, p⟩ := h
  obtain ⟨z, rfl, e⟩ := on1_some e0
  clear e0
  obtain ⟨x, rfl, hz⟩ := repL1 hx
  have rest : (match asLR S.μ z with
    | some ds => some (D.lst ds)
    | none => none) = some d → wpAny (model X.prog X.w) X.A (call (.type "list") us) (EP X pins σ Q) X.xe s := fun e => by
    cases e1 : asLR S.μ z with
    | none => rw [e1] at e; cases e
    | some ds =>
      rw [e1] at e
      cases e
      obtain ⟨l, ys, rfl, k1, k2⟩ := lstR_at r hz e1
      exact call_list_of pins s σ H _ us Q I rv ⟨l, ys, rfl, .inl k1, fun q hq => p.lst r k2 hq⟩
  cases z with
  | tup ds =>
    cases e
    obtain ⟨l, ys, rfl, k1, k2⟩ := tup_at r hz
    exact call_list_of pins s σ H _ us Q I rv ⟨l, ys, rfl, .inr (sqT_of k1), fun q hq => p.lst r k2 hq⟩
  | _ => exact rest e
end
end FL

namespace FL
open PySem L2 PyProof.Rows PySem.Spec
/-! ### statements -/
inductive Out where
  | next (ρ : Env) | brk (ρ : Env) | cont (ρ : Env) | ret (d : D)
inductive SRes where
  | ok (o : Out) (μ : Store) | exc (c : Str) (d : D) (ρ : Env) (μ : Store) | bad
abbrev SM := Env → Store → SRes
def PostS (K : PySem.W.Frag) (S : S3) (H : Hp) (W : WX) (T : Ends) : SRes → Prop
  | .ok (.next ρ') μ' => ∀ S' H' σ', S'.μ = μ' → Rel K S' H' → Go S H S' H' → RepS K S' σ' ρ' → T.nx σ' H'
  | .ok (.brk ρ') μ' => ∀ S' H' σ', S'.μ = μ' → Rel K S' H' → Go S H S' H' → RepS K S' σ' ρ' → T.bk σ' H'
  | .ok (.cont ρ') μ' => ∀ S' H' σ', S'.μ = μ' → Rel K S' H' → Go S H S' H' → RepS K S' σ' ρ' → T.ct σ' H'
  | .ok (.ret d) μ' => ∀ S' H' v, S'.μ = μ' → Rel K S' H' → Go S H S' H' → Rep K S' v d → T.rt v H'
  | .exc c d ρ' μ' => ∀ S' H' σ' dd v, S'.μ = μ' → Rel K S' H' → Go S H S' H' → RepS K S' σ' ρ' → S'.G dd = some (.xd [(excField c, v)]) → Rep K S' v d → W (.ref (He.ga K c)) (some dd) σ' H'
  | .bad => False
def tS (K : PySem.W.Frag) (W : WX) (m : SM) : TS := fun T σ H => ∃ S ρ, Rel K S H ∧ RepS K S σ ρ ∧ PostS K S H W T (m ρ S.μ)
theorem PostS.go {K : PySem.W.Frag} {S S1 : S3} {H H1 : Hp} {W : WX} {T : Ends} {r : SRes} (g : Go S H S1 H1) (p : PostS K S H W T r) : PostS K S1 H1 W T r := by
  cases r with
  | ok o μ' =>
    cases o with
    | next ρ' => exact fun S' H' σ' e r g' rs => p S' H' σ' e r (g.trans g') rs
    | brk ρ' => exact fun S' H' σ' e r g' rs => p S' H' σ' e r (g.trans g') rs
    | cont ρ' => exact fun S' H' σ' e r g' rs => p S' H' σ' e r (g.trans g') rs
    | ret d => exact fun S' H' v e r g' rs => p S' H' v e r (g.trans g') rs
  | exc c d ρ' μ' => exact fun S' H' σ' dd v e r g' rs => p S' H' σ' dd v e r (g.trans g') rs
  | bad => exact p
/-- an expression, then what follows with its value -/
def thenS {α : Type} (m : M α) (ρ : Env) (k : α → Store → SRes) : Store → SRes := fun μ => match m μ with
  | .ok d μ' => k d μ'
  | .exc c d μ' => .exc c d ρ μ'
  | .bad => .bad
theorem thenS_read {α β : Type} {K : PySem.W.Frag} {R : S3 → β → α → Prop} {S : S3} {H : Hp} {W : WX} {T : Ends} {σ : L2.St} {ρ : Env} {m : M α} {k : α → Store → SRes} (rs : RepS K S σ ρ) (p : PostS K S H W T (thenS m ρ k S.μ)) :
    PostG K R S H (fun c d H => W c d σ H) (m S.μ) (fun v H1 => ∃ S1 d, Rel K S1 H1 ∧ Go S H S1 H1 ∧ RepS K S1 σ ρ ∧ R S1 v d ∧ PostS K S1 H1 W T (k d S1.μ)) := by
  unfold thenS at p
  revert p
  cases m S.μ with
  | ok d μ' =>
    intro p S' H' v e r g hv
    subst e
    exact ⟨S', d, r, g, rs.go g, hv, p.go g⟩
  | exc c d μ' => exact fun p S' H' dd v e r g hx hv => p S' H' σ dd v e r g (rs.go g) hx hv
  | bad => exact fun p => p
def sNext : SM := fun ρ μ => .ok (.next ρ) μ
def sBrk : SM := fun ρ μ => .ok (.brk ρ) μ
def sCont : SM := fun ρ μ => .ok (.cont ρ) μ
def sSeq (a b : SM) : SM := fun ρ μ => match a ρ μ with
  | .ok (.next ρ') μ' => b ρ' μ'
  | r => r
def sSet (i : Nat) (m : EM) : SM := fun ρ => thenS (m ρ) ρ fun d μ => .ok (.next (ρ.set i (some d))) μ
def sRet (m : EM) : SM := fun ρ => thenS (m ρ) ρ fun d μ => .ok (.ret d) μ
def sRetN : SM := fun _ μ => .ok (.ret .non) μ
def sExpr (m : EM) : SM := fun ρ => thenS (m ρ) ρ fun _ μ => .ok (.next ρ) μ
def sIf (t : Env → M Bool) (a b : SM) : SM := fun ρ => thenS (t ρ) ρ fun c μ => if c = true then a ρ μ else b ρ μ
section
variable {X : Cx} {W : WX} {pos p2 : Pos} {st : Stmt} {rest : List Stmt} {e : Expr} {m : EM} {a b : SM}
theorem fs_nil : PSs X [] (tS X.K W sNext) := pss_nil.imp fun D σ H ⟨S, ρ, r, rs, p⟩ => p S H σ rfl r (Go.refl _ _) rs
theorem fs_pass : PS X (.Pass pos) (tS X.K W sNext) := ps_pass.imp fun D σ H ⟨S, ρ, r, rs, p⟩ => p S H σ rfl r (Go.refl _ _) rs
theorem fs_brk : PS X (.Break pos) (tS X.K W sBrk) := ps_break.imp fun D σ H ⟨S, ρ, r, rs, p⟩ => p S H σ rfl r (Go.refl _ _) rs
theorem fs_cont : PS X (.Continue pos) (tS X.K W sCont) := ps_continue.imp fun D σ H ⟨S, ρ, r, rs, p⟩ => p S H σ rfl r (Go.refl _ _) rs
theorem fs_cons (h : PS X st (tS X.K W a)) (t : PSs X rest (tS X.K W b)) : PSs X (st :: rest) (tS X.K W (sSeq a b)) :=
  (pss_cons h t).imp fun D σ H ⟨S, ρ, r, rs, p⟩ => ⟨S, ρ, r, rs, by
    unfold sSeq at p
    revert p
    cases a ρ S.μ with
    | ok o μ' =>
      cases o with
      | next ρ' => exact fun p S' H' σ' e r' g rs' => ⟨S', ρ', r', rs', by rw [e]; exact p.go g⟩
      | brk ρ' => exact fun p => p
      | cont ρ' => exact fun p => p
      | ret d => exact fun p => p
    | exc c d ρ' μ' => exact fun p => p
    | bad => exact fun p => p⟩
theorem fs_one (h : PS X st (tS X.K W a)) : PSs X [st] (tS X.K W a) := pss_one h
theorem fs_set (i : Nat) {x : Str} (hN : X.N.Nodup) (he : PE X e (tE X.K W m)) (hi : X.N[i]? = some x := by rfl) (hx : Loc X.env.scope x := by first | exact Or.inl rfl | exact Or.inr rfl) (hs : swapsWith e (some (.Name x p2)) pos.line X.env = pure false := by rfl)
    (hf : X.fn x = true ∨ X.env.scope.names.lookup x = some .local := by first | exact .inl rfl | exact .inr rfl | assumption) : PS X (.Assign [.Name x p2] e pos) (tS X.K W (sSet i m)) :=
  (ps_set hN hi hx he hs hf).imp fun D σ H ⟨S, ρ, r, rs, p⟩ => ⟨S, ρ, r, rs, (thenS_read (R := Rep X.K) rs p).imp fun v H1 ⟨S1, d, r1, g1, rs1, hv, p1⟩ => p1 S1 H1 _ rfl r1 (Go.refl _ _) (rs1.set hv)⟩
theorem fs_ret (he : PE X e (tE X.K W m)) : PS X (.Return (some e) pos) (tS X.K W (sRet m)) :=
  (ps_ret he).imp fun D σ H ⟨S, ρ, r, rs, p⟩ => ⟨S, ρ, r, rs, (thenS_read (R := Rep X.K) rs p).imp fun v H1 ⟨S1, d, r1, g1, rs1, hv, p1⟩ => p1 S1 H1 v rfl r1 (Go.refl _ _) hv⟩
theorem fs_retN : PS X (.Return none pos) (tS X.K W sRetN) := ps_retN.imp fun D σ H ⟨S, ρ, r, rs, p⟩ => p S H .non rfl r (Go.refl _ _) rfl
theorem fs_expr (he : PE X e (tE X.K W m)) (hs : swapsWith e none pos.line X.env = pure false := by rfl) : PS X (.Expr e pos) (tS X.K W (sExpr m)) :=
  (ps_expr he hs).imp fun D σ H ⟨S, ρ, r, rs, p⟩ => ⟨S, ρ, r, rs, (thenS_read (R := Rep X.K) rs p).imp fun v H1 ⟨S1, d, r1, g1, rs1, hv, p1⟩ => p1 S1 H1 σ rfl r1 (Go.refl _ _) rs1⟩
theorem fs_if {c : Expr} {sa sb : List Stmt} {t : Env → M Bool} (hc : PT X c (tB X.K W t)) (ha : PSs X sa (tS X.K W a)) (hb : PSs X sb (tS X.K W b)) : PS X (.If c sa sb pos) (tS X.K W (sIf t a b)) :=
  (ps_if hc ha hb).imp fun D σ H ⟨S, ρ, r, rs, p⟩ => ⟨S, ρ, r, rs, (thenS_read (R := RB) rs p).imp fun v H1 ⟨S1, d, r1, g1, rs1, hv, p1⟩ => by
    cases hv
    cases v with
    | true => rw [if_pos rfl] at p1 ⊢; exact ⟨S1, ρ, r1, rs1, p1⟩
    | false => rw [if_neg (by decide)] at p1 ⊢; exact ⟨S1, ρ, r1, rs1, p1⟩⟩
end

/-! ### defs -/
def spD (K : PySem.W.Frag) (φ : List D → M D) : Sp := fun vs H Q E => ∃ S ds, Rel K S H ∧ RepL K S vs ds ∧ Post K S H E (φ ds S.μ) Q
/-- the def at f is the function φ, with room for k calls, one in another -/
structure FnG (P : Program) (w : World) (K : PySem.W.Frag) (mg : Str → Option Value) (base : Heap) (k : Nat) (f : Addr) (fd : FuncData) (ps : List Str) (φ : List D → M D) : Prop where
  len : ∀ ds μ, φ ds μ = .bad ∨ ds.length = ps.length
  run : ∀ (A : Around) (outer : List PySem.Env) (s : Shared) (H : Hp) (args : Args) (us : List Value) (vs : List V) (Q : VK) (E : XK), Room k A → A.guards = some [] → Env0 P w K mg base A outer s H → BindsTo s fd args (ps.zip us) → Vals vs us → spD K φ vs H Q E →
    codeAny (model P w) A (.call (.ref f) args) (CR (L2.CX P w) outer P w H s Q E) s
theorem FnG.mono {P : Program} {w : World} {K : PySem.W.Frag} {mg : Str → Option Value} {base : Heap} {j k : Nat} {f : Addr} {fd : FuncData} {ps : List Str} {φ : List D → M D} (F : FnG P w K mg base j f fd ps φ) (h : j ≤ k) : FnG P w K mg base k f fd ps φ :=
  ⟨F.len, fun A outer s H args us vs Q E hr => F.run A outer s H args us vs Q E (hr.mono h)⟩
theorem spD.len {P : Program} {w : World} {K : PySem.W.Frag} {mg : Str → Option Value} {base : Heap} {k : Nat} {f : Addr} {fd : FuncData} {ps : List Str} {φ : List D → M D} (F : FnG P w K mg base k f fd ps φ) {vs : List V} {H : Hp} {Q : VK} {E : XK} (h : spD K φ vs H Q E) : vs.length = ps.length := by
  obtain ⟨S, ds, r, hr, p⟩ := h
  rcases F.len ds S.μ with e | e
  · rw [e] at p; exact p.elim
  · rw [hr.length]; exact e
def startD (N : List Str) (ds : List D) : Env := ds.map some ++ List.replicate (N.length - ds.length) none
theorem start_rep {K : PySem.W.Frag} {S : S3} {N : List Str} {vs : List V} {ds : List D} (h : RepL K S vs ds) : RepS K S (L2.start N vs) (startD N ds) := by
  unfold L2.start startD
  refine ⟨by simp [h.length], fun i d e => ?_⟩
  by_cases hi : i < ds.length
  · rw [List.getElem?_append_left (by simpa using hi), List.getElem?_map] at e
    cases q : ds[i]? with
    | none => rw [q] at e; cases e
    | some d' =>
      rw [q] at e
      cases e
      obtain ⟨v, h1, h2⟩ := h.getD q
      exact ⟨v, by rw [List.getElem?_append_left (by simp [h.length]; exact hi), List.getElem?_map, h1]; rfl, h2⟩
  · rw [List.getElem?_append_right (by simpa using hi), List.getElem?_replicate] at e
    split at e <;> cases e
/-- a body as a function of its arguments -/
def bodyF (n : Nat) (N : List Str) (b : SM) : List D → M D := fun ds μ => if ds.length = n then (match b (startD N ds) μ with
  | .ok (.next _) μ' => .ok .non μ'
  | .ok (.ret d) μ' => .ok d μ'
  | .ok _ _ => .bad
  | .exc c d _ μ' => .exc c d μ'
  | .bad => .bad) else .bad
abbrev W0 (E : XK) : WX := fun cls d _ H => E cls d H
/-- THE RULE for a def -/
theorem fn_D {P : Program} {w : World} {K : PySem.W.Frag} {mg : Str → Option Value} {base : Heap} {k : Nat} {f : Addr} {fd : FuncData} {N ps : List Str} {x qual : Str} {params : Arguments} {body : List Stmt} {scope : Scope} {dvs : List V} {kws : List (Str × V)} {b : SM}
    (F : FunD K x qual params body scope dvs kws f fd) (S : FnScope N ps scope)
    (hbody : ∀ (cdv : Value) (A : Around) (outer : List PySem.Env) (s : Shared) (H : Hp) (E : XK), Room k (A.deeper (envOfC qual scope s.heap.objs.size f cdv)) → A.guards = some [] →
      PSs (cxOf (L2.CX P w) P w K mg base N qual scope f cdv A outer s H E) body (tS K (W0 E) b)) : FnG P w K mg base (k + 1) f fd ps (bodyF ps.length N b) := by
  obtain ⟨oc, od, dV, kV, doc, pm, an, cdv, ct, osl, rfl, lk, hcd, _, _⟩ := F.ex
  refine ⟨fun ds μ => ?_, fun A outer s H args us vs Q E hr hgd e0 hb rv hsp => ?_⟩
  · unfold bodyF
    by_cases h : ds.length = ps.length
    · exact .inr h
    · exact .inl (if_neg h)
  obtain ⟨S0, ds, r, hrep, hpost⟩ := hsp
  by_cases hlen : ds.length = ps.length
  case neg => unfold bodyF at hpost; rw [if_neg hlen] at hpost; exact hpost.elim
  unfold bodyF at hpost
  rw [if_pos hlen] at hpost
  have hl : vs.length = ps.length := by rw [hrep.length]; exact hlen
  have inS : ∀ b o, base.get? b = some o → s.heap.get? b = some o := fun b o e => (e0.bs b o e).1
  have lim := e0.mod.nolimit.keeps inS
  have KX := e0.mod.kin.keeps inS
  have kinds : ∀ y ∈ ps.zip us, scope.names.lookup y.1 = some .local ∨ (scope.names.lookup y.1 = some .cell ∧ ((cellsFrom (s.heap.objs.size + 1) scope.names []).lookup y.1).isSome = true) := by
    rintro ⟨nm, val⟩ hy
    exact (S.par nm (List.of_mem_zip hy).1).imp (fun q => q) fun q => ⟨q, PySem.W.cellsFrom_some _ _ _ (.inl q)⟩
  refine codeAny_call_function hr.depth (KX _ _ lk) rfl S.co S.gen rfl (PySem.W.codeRec_of KX hcd) (hb _ _ _ _ (wpAny_newFunctionEnv_cells S.kind kinds fun env he s1 ic => ?_))
  subst he
  refine ⟨lim.keeps ic.toInCall.keep, codeAny_func ?_⟩
  have body := hbody cdv A outer s H E (hr.deeper _) hgd
  have I := inv_start (CX := L2.CX P w) (E := E) (P := P) (w := w) S hr.hd e0 hl rv ic
  have back : ∀ {σ' : L2.St} {H' : Hp} {s' : Shared} {v : V} {u : Value}, Inv (cxOf (L2.CX P w) P w K mg base N qual scope f cdv A outer s H E) [] σ' H' s' → RelV v u → Q v H' → CE outer P w H s Q u s' := fun J ru q => ⟨_, _, J.os, J.bare, J.base, J.hok, ru, q⟩
  refine wpAny_mono (body.run [] s1 (L2.start N vs) H { nx := fun _ H' => Q .non H', rt := Q } I ⟨S0, startD N ds, r, start_rep hrep, ?_⟩) (fun fl s' hs => ?_) fun _ _ hs => hs
  · revert hpost
    cases b (startD N ds) S0.μ with
    | ok o μ' =>
      cases o with
      | next ρ' => exact fun p S' H' σ' e r' g _ => p S' H' .non e r' g rfl
      | ret d => exact fun p => p
      | brk ρ' => exact fun p => p.elim
      | cont ρ' => exact fun p => p.elim
    | exc c d ρ' μ' => exact fun p S' H' σ' dd v e r' g _ hx hv => p S' H' dd v e r' g hx hv
    | bad => exact fun p => p
  · cases fl with
    | ret u => obtain ⟨v, σ', H', J, ru, q⟩ := hs; exact back J ru q
    | next => obtain ⟨σ', H', J, q⟩ := hs; exact back (v := V.non) (u := Value.none) J rfl q
    | brk => exact hs.elim fun _ z => z.elim fun _ z => z.2.elim
    | cont => exact hs.elim fun _ z => z.elim fun _ z => z.2.elim

/-! ### calls of defs -/
def mFn (φ : List D → M D) (dds : List D) (ms : Env → M (List D)) : EM := fun ρ => (ms ρ).bnd fun ds => φ (ds ++ dds)
section
variable {X : Cx} {W : WX} {k : Nat} {f : Addr} {fd : FuncData} {ps : List Str} {φ : List D → M D} {dvs : List V} {dds : List D} {dfl : List Value} {x : Str} {p pos : Pos} {e : Expr} {es : List Expr} {ms : Env → M (List D)}
theorem run_fnG {pins : List (Addr × Obj)} {σ : L2.St} {H : Hp} {s : Shared} {Q : VK} {us : List Value} {vs : List V} (F : FnG X.prog X.w X.K X.mg X.base k f fd ps φ) (hr : Room k X.A) (hgd : X.A.guards = some []) (hb : Binds X.K fd ps dfl) (hd : Vals dvs dfl) (tk : Takes X W)
    (I : Inv X pins σ H s) (r : Vals vs us) (h : spD X.K φ (vs ++ dvs) H Q (atσ W σ)) : wpAny (model X.prog X.w) X.A (call (.ref f) us) (EP X pins σ Q) X.xe s := by
  have r2 := r.append hd
  have hl : (us ++ dfl).length = ps.length := by rw [← r2.length]; exact spD.len F h
  refine wpAny_call (codeAny_mono (F.run X.A X.stack s H ⟨us, []⟩ _ _ Q (atσ W σ) hr hgd I.env0 (hb s us I.kIn hl) r2 h) fun z s' hq => ?_)
  match z, hq with
  | .error e, hq => exact tk e s' (XE.of_call I (fun _ _ _ h => h) hq)
  | .ok (.ret u), hq => exact I.after hq
theorem fe_call (F : FnG X.prog X.w X.K X.mg X.base k f fd ps φ) (hr : Room k X.A) (hgd : X.A.guards = some []) (hg : Gl X x) (hm : X.mg x = some (.ref f)) (hk : PySem.W.keepIn X.K (.ref f) = true) (hb : Binds X.K fd ps dfl) (hd : Vals dvs dfl) (hdd : ∀ S, RepL X.K S dvs dds) (tk : Takes X W)
    (ha : PA X (e :: es) (tA X.K W ms)) (hdb : (x == ("__debug__" : Str)) = false := by decide) (he : starEach (e :: es) X.env = (false, eval e X.env) :: starEach es X.env := by rfl) (hpl : (backTo pos (starEach es X.env)).any (·.1) = false := by rfl) :
    PE X (.Call (.Name x p) (e :: es) [] pos) (tE X.K W (mFn φ dds ms)) := by
  refine ⟨fun pins s σ H Q I ⟨S, ρ, r, rs, hp⟩ => wpAny_Call_Name_kw (ld_glob I hg hm ?_ hdb)⟩
  refine PySem.W.callWith_K (h₀ := X.base) I.ok.mod.kin hk (thn (ha.run pos pins s σ H _ I ⟨S, ρ, r, rs, hp.bind⟩) fun us s1 ⟨vs, H1, I1, rv, S1, ds, r1, g1, hv, p1⟩ => ⟨I1.kIn, ?_⟩) he hpl
  exact run_fnG F hr hgd hb hd tk I1 rv ⟨S1, ds ++ dds, r1, hv.append (hdd S1), p1⟩
theorem fe_call0 (F : FnG X.prog X.w X.K X.mg X.base k f fd ps φ) (hr : Room k X.A) (hgd : X.A.guards = some []) (hg : Gl X x) (hm : X.mg x = some (.ref f)) (hk : PySem.W.keepIn X.K (.ref f) = true) (hb : Binds X.K fd ps dfl) (hd : Vals dvs dfl) (hdd : ∀ S, RepL X.K S dvs dds) (tk : Takes X W)
    (hdb : (x == ("__debug__" : Str)) = false := by decide) : PE X (.Call (.Name x p) [] [] pos) (tE X.K W (mFn φ dds aNil)) := by
  refine ⟨fun pins s σ H Q I ⟨S, ρ, r, rs, hp⟩ => wpAny_Call_Name_kw (ld_glob I hg hm ?_ hdb)⟩
  exact PySem.W.callWith_K0 I.kIn hk (run_fnG (us := []) (vs := []) F hr hgd hb hd tk I .nil ⟨S, dds, r, hdd S, hp⟩)
end
end FL

namespace FL
open PySem L2
/-! ### what is walked: the items are known ahead -/
structure ExtS (S S' : S3) : Prop where
  gg : Sub S.G S'.G
  len : S.μ.length ≤ S'.μ.length
  ag : ∀ n, n < S.μ.length → S'.ι n = S.ι n
theorem ExtS.refl (S : S3) : ExtS S S := ⟨Sub.refl _, Nat.le_refl _, fun _ _ => rfl⟩
theorem ExtS.trans {a b c : S3} (x : ExtS a b) (y : ExtS b c) : ExtS a c := ⟨x.gg.trans y.gg, Nat.le_trans x.len y.len, fun n h => (y.ag n (Nat.lt_of_lt_of_le h x.len)).trans (x.ag n h)⟩
theorem Go.ext {S S' : S3} {H H' : Hp} (g : Go S H S' H') : ExtS S S' := ⟨g.gg, g.len, g.ag⟩
theorem Rep.ext {K : PySem.W.Frag} {S S' : S3} {v : V} {d : D} (h : Rep K S v d) (g : ExtS S S') : Rep K S' v d := RepI.mono g.gg g.len g.ag d h
theorem RepL.ext {K : PySem.W.Frag} {S S' : S3} {v : List V} {d : List D} (h : RepL K S v d) (g : ExtS S S') : RepL K S' v d := RepIL.mono g.gg g.len g.ag d h
theorem RepS.ext {K : PySem.W.Frag} {S S' : S3} {σ : St} {ρ : Env} (h : RepS K S σ ρ) (g : ExtS S S') : RepS K S' σ ρ := ⟨h.1, fun i d e => let ⟨v, h1, h2⟩ := h.2 i d e; ⟨v, h1, Rep.ext h2 g⟩⟩
structure IterD (K : PySem.W.Frag) (J : It) (S : S3) (ds : List D) : Prop where
  go : ∀ S' H' i, ExtS S S' → Rel K S' H' → i < ds.length → J.go i H'
  stop : ∀ S' H', ExtS S S' → Rel K S' H' → J.stop ds.length H'
  yld : ∀ S' H' i x H'', ExtS S S' → Rel K S' H' → i < ds.length → J.yld i H' x H'' → ∃ S2 d, ds[i]? = some d ∧ S2.μ = S'.μ ∧ Rel K S2 H'' ∧ Go S' H' S2 H'' ∧ Rep K S2 x d
def tI (K : PySem.W.Frag) (W : WX) (m : Env → M (List D)) : TI := fun σ H R => ∃ S ρ, Rel K S H ∧ RepS K S σ ρ ∧ (match m ρ S.μ with
  | .ok ds μ' => ∀ S' H' J, S'.μ = μ' → Rel K S' H' → Go S H S' H' → IterD K J S' ds → R J H'
  | .exc c d μ' => PostX K S H c d μ' (fun c d H => W c d σ H)
  | .bad => False)
/-! targets -/
abbrev TgD := D → Env → Option Env
def tName (i : Nat) : TgD := fun d ρ => some (ρ.set i (some d))
def setAllD : List Nat → List D → Env → Option Env
  | [], [], ρ => some ρ
  | i :: is, d :: ds, ρ => setAllD is ds (ρ.set i (some d))
  | _, _, _ => none
def tTuple (is : List Nat) : TgD := fun d ρ => match d with
  | .tup ds => setAllD is ds ρ
  | _ => none
def tT (K : PySem.W.Frag) (vs : List Nat) (t : TgD) : TG := fun v σ H Q => ∃ S ρ d ρ', Rel K S H ∧ RepS K S σ ρ ∧ Rep K S v d ∧ t d ρ = some ρ' ∧ ∀ σ', σ'.length = σ.length → (∀ j, j ∉ vs → σ'[j]? = σ[j]?) → RepS K S σ' ρ' → Q σ' H
theorem _root_.L2.PG.imp {X : Cx} {e : Expr} {t t' : TG} (h : PG X e t) (k : ∀ v σ H Q, t' v σ H Q → t v σ H Q) : PG X e t' := ⟨fun pins s σ H v u Q I r q => h.run pins s σ H v u Q I r (k v σ H Q q)⟩
section
variable {X : Cx} {pos : Pos}
theorem ft_name (i : Nat) {x : Str} (hN : X.N.Nodup) (hi : X.N[i]? = some x := by rfl) (hx : Loc X.env.scope x := by first | exact Or.inl rfl | exact Or.inr rfl) (hf : X.fn x = true ∨ X.env.scope.names.lookup x = some .local := by first | exact .inl rfl | exact .inr rfl | assumption) : PG X (.Name x pos) (tT X.K [i] (tName i)) :=
  (pg_name hN hi hx hf).imp fun v σ H Q ⟨S, ρ, d, ρ', r, rs, hv, e, k⟩ => by
    cases e
    exact k _ (by simp) (fun j hj => by rw [List.getElem?_set_ne (fun z => hj (by simp [z]))]) (rs.set hv)
/-- several names -/
def gNames : List Nat → TGs
  | [] => gNil
  | i :: is => gCons (gName i) (gNames is)
theorem gNames_read {K : PySem.W.Frag} : ∀ (is : List Nat) {vs : List V} {σ : St} {H : Hp} {Q : St → Hp → Prop} {S : S3} {ρ ρ' : Env} {ds : List D}, RepS K S σ ρ → RepL K S vs ds → setAllD is ds ρ = some ρ' →
    (∀ σ', σ'.length = σ.length → (∀ j, j ∉ is → σ'[j]? = σ[j]?) → RepS K S σ' ρ' → Q σ' H) → gNames is vs σ H Q
  | [], vs, σ, H, Q, S, ρ, ρ', ds, rs, hv, e, k => by
    cases ds with
    | nil => cases e; exact ⟨hv, k σ rfl (fun _ _ => rfl) rs⟩
    | cons d ds => cases e
  | i :: is, vs, σ, H, Q, S, ρ, ρ', ds, rs, hv, e, k => by
    cases ds with
    | nil => cases e
    | cons d ds =>
      obtain ⟨v, r, rfl, h1, h2⟩ := hv
      refine ⟨v, r, rfl, gNames_read is (rs.set h1) h2 e fun σ' hl hj hr => k σ' (by rw [hl]; simp) (fun j hn => ?_) hr⟩
      rw [hj j (fun z => hn (List.mem_cons_of_mem _ z)), List.getElem?_set_ne (fun z => hn (by simp [z]))]
theorem fgs_nil : PGs X [] (gNames []) := pgs_nil
theorem fgs_cons (i : Nat) {x : Str} {es : List Expr} {is : List Nat} (hN : X.N.Nodup) (h : PGs X es (gNames is)) (hi : X.N[i]? = some x := by rfl) (hx : Loc X.env.scope x := by first | exact Or.inl rfl | exact Or.inr rfl)
    (hs : (assignEach (.Name x pos :: es) X.env).map (·.2) = assign (.Name x pos) X.env :: (assignEach es X.env).map (·.2) := by rfl) (hf : X.fn x = true ∨ X.env.scope.names.lookup x = some .local := by first | exact .inl rfl | exact .inr rfl | assumption) : PGs X (.Name x pos :: es) (gNames (i :: is)) :=
  pgs_cons (pg_name hN hi hx hf) h hs
theorem ft_tup {es : List Expr} {k n : Nat} {is : List Nat} (hc : X.calm = true) (h : PGs X es (gNames is)) (hl : is.length = n := by rfl) (hn : (assignEach es X.env).length = n := by rfl) (hst : (assignEach es X.env).findIdx? (·.1) = none := by rfl) : PG X (.Tuple es k pos) (tT X.K is (tTuple is)) :=
  (pg_tup hc h hn hst).imp fun v σ H Q ⟨S, ρ, d, ρ', r, rs, hv, e, q⟩ => by
    cases d with
    | tup ds =>
      obtain ⟨a, xs, rfl, h1, h2⟩ := tup_at r hv
      refine ⟨a, xs, rfl, sqT_of h1, ?_, gNames_read is rs h2 e q⟩
      have len : ∀ (is : List Nat) (ds : List D) (ρ ρ' : Env), setAllD is ds ρ = some ρ' → is.length = ds.length := by
        intro is
        induction is with
        | nil => intro ds ρ ρ' e; cases ds <;> first | rfl | cases e
        | cons i is ih => intro ds ρ ρ' e; cases ds <;> first | cases e | (simp [ih _ _ _ e])
      rw [h2.length, ← len is ds ρ ρ' e, hl]
    | _ => cases e
end

/-! ### for -/
def forS (t : TgD) (b : SM) : List D → SM
  | [], ρ, μ => .ok (.next ρ) μ
  | d :: ds, ρ, μ => match t d ρ with
    | none => .bad
    | some ρ1 => match b ρ1 μ with
      | .ok (.next ρ2) μ' => forS t b ds ρ2 μ'
      | .ok (.cont ρ2) μ' => forS t b ds ρ2 μ'
      | .ok (.brk ρ2) μ' => .ok (.next ρ2) μ'
      | r => r
def sFor (mi : Env → M (List D)) (t : TgD) (b : SM) : SM := fun ρ => thenS (mi ρ) ρ fun ds μ => forS t b ds ρ μ
theorem fs_for {X : Cx} {W : WX} {pos : Pos} {tg iter : Expr} {body : List Stmt} {mi : Env → M (List D)} {t : TgD} {vs : List Nat} {b : SM} (hp : PassesOwn (model X.prog X.w) X.A X.env X.xe) (hc : X.calm = true) (hi : PI X tg iter (tI X.K W mi)) (hg : PG X tg (tT X.K vs t)) (hb : PSs X body (tS X.K W b))
    (hs : ∀ x, foldedSetIterable iter X.env x = pure x := by intro _; rfl) : PS X (.For tg iter body [] pos) (tS X.K W (sFor mi t b)) := by
  refine (ps_for hp hc hi hg hb hs).imp fun T σ H ⟨S, ρ, r, rs, p⟩ => ⟨S, ρ, r, rs, ?_⟩
  unfold sFor thenS at p
  revert p
  cases mi ρ S.μ with
  | exc c d μ' => exact fun p S' H' dd v e r g hx hv => p S' H' σ dd v e r g (rs.go g) hx hv
  | bad => exact fun p => p
  | ok ds μ' =>
    intro p S1 H1 J e1 r1 g1 it
    refine ⟨fun i m σ' H' => m = ds.length - i ∧ i ≤ ds.length ∧ ∃ S' ρ', Rel X.K S' H' ∧ ExtS S1 S' ∧ RepS X.K S' σ' ρ' ∧ PostS X.K S' H' W T (forS t b (ds.drop i) ρ' S'.μ), ⟨_, rfl, Nat.zero_le _, S1, ρ, r1, ExtS.refl _, rs.go g1, ?_⟩, ?_⟩
    · rw [List.drop_zero, e1]
      exact PostS.go g1 p
    · rintro i m σ' H' ⟨rfl, hi, S', ρ', r', x', rs', p'⟩
      by_cases hlt : i < ds.length
      · refine .inr ⟨it.go S' H' i x' r' hlt, fun σ2 H2 => (i + 1) ≤ ds.length ∧ ∃ S2 ρ2, Rel X.K S2 H2 ∧ ExtS S1 S2 ∧ RepS X.K S2 σ2 ρ2 ∧ PostS X.K S2 H2 W T (forS t b (ds.drop (i + 1)) ρ2 S2.μ), fun σ2 H2 q => ⟨ds.length - (i + 1), by omega, rfl, q.1, q.2⟩, fun x H2 hy => ?_⟩
        obtain ⟨S2, d, hd, eμ, r2, g2, hv⟩ := it.yld S' H' i x H2 x' r' hlt hy
        have ed : ds.drop i = d :: ds.drop (i + 1) := by
          rw [List.drop_eq_getElem_cons hlt]
          rw [List.getElem?_eq_getElem hlt] at hd
          cases hd
          rfl
        rw [ed] at p'
        unfold forS at p'
        cases et : t d ρ' with
        | none => rw [et] at p'; exact p'.elim
        | some ρ1 =>
          rw [et] at p'
          simp only at p'
          refine ⟨S2, ρ', d, ρ1, r2, rs'.go g2, hv, et, fun σ2 _ _ rs2 => ⟨S2, ρ1, r2, rs2, ?_⟩⟩
          have p2 := PostS.go g2 p'
          rw [← eμ] at p2
          revert p2
          cases b ρ1 S2.μ with
          | ok o μ2 =>
            cases o with
            | next ρ2 => exact fun p2 S3 H3 σ3 e3 r3 g3 rs3 => ⟨hlt, S3, ρ2, r3, (x'.trans g2.ext).trans g3.ext, rs3, by rw [e3]; exact PostS.go g3 p2⟩
            | cont ρ2 => exact fun p2 S3 H3 σ3 e3 r3 g3 rs3 => ⟨hlt, S3, ρ2, r3, (x'.trans g2.ext).trans g3.ext, rs3, by rw [e3]; exact PostS.go g3 p2⟩
            | brk ρ2 => exact fun p2 => p2
            | ret d2 => exact fun p2 => p2
          | exc c d ρ2 μ2 => exact fun p2 => p2
          | bad => exact fun p2 => p2
      · have e : i = ds.length := by omega
        subst e
        rw [List.drop_length] at p'
        exact .inl ⟨it.stop S' H' x' r', p' S' H' σ' rfl r' (Go.refl _ _) rs'⟩

/-! ### list comprehensions -/
def noX {α : Type} (m : M α) : M α := fun μ => match m μ with
  | .ok a μ' => .ok a μ'
  | _ => .bad
def compL (t : TgD) (c : Env → M Bool) (e : EM) (ρ0 : Env) : List D → M (List D)
  | [] => M.ret []
  | d :: ds => match t d ρ0 with
    | none => M.bad
    | some ρ1 => (noX (c ρ1)).bnd fun k => if k = true then (noX (e ρ1)).bnd fun y => (compL t c e ρ0 ds).bnd fun ys => M.ret (y :: ys) else compL t c e ρ0 ds
def wipeD (ρ : Env) : List Nat → Env
  | [] => ρ
  | v :: vs => (wipeD ρ vs).set v none
theorem wipe_rep {K : PySem.W.Frag} {S : S3} {σ : St} {ρ : Env} (h : RepS K S σ ρ) : ∀ vs : List Nat, RepS K S (wipe σ vs) (wipeD ρ vs)
  | [] => h
  | v :: vs => (wipe_rep h vs).unset
theorem wipe_get {σ : St} {j : Nat} : ∀ {vs : List Nat}, (wipe σ vs)[j]? = if j ∈ vs then (if j < σ.length then some none else none) else σ[j]?
  | [] => by simp [wipe]
  | v :: vs => by
    unfold wipe
    by_cases h : v = j
    · subst h
      rw [if_pos List.mem_cons_self]
      by_cases hl : v < σ.length
      · rw [if_pos hl, List.getElem?_set_self (by rw [wipe_length]; exact hl)]
      · rw [if_neg hl, List.getElem?_eq_none (by rw [List.length_set, wipe_length]; omega)]
    · rw [List.getElem?_set_ne h, wipe_get (vs := vs)]
      by_cases hm : j ∈ vs
      · rw [if_pos hm, if_pos (List.mem_cons_of_mem _ hm)]
      · rw [if_neg hm, if_neg (by simp [hm, Ne.symm h])]
theorem wipe_same {σ σ2 : St} {vs : List Nat} (hl : σ2.length = (wipe σ vs).length) (h : ∀ j, j ∉ vs → σ2[j]? = (wipe σ vs)[j]?) : wipe σ2 vs = wipe σ vs := by
  refine List.ext_getElem? fun j => ?_
  rw [wipe_length] at hl
  rw [wipe_get, wipe_get]
  by_cases hm : j ∈ vs
  · rw [if_pos hm, if_pos hm, hl]
  · rw [if_neg hm, if_neg hm, h j hm, wipe_get, if_neg hm]
/-- an address that is none of ours -/
structure OutOf (S : S3) (p : Addr) : Prop where
  g : S.G p = none
  c : ∀ n, n < S.μ.length → S.ι n ≠ p
theorem OutOf.go {S S' : S3} {H H' : Hp} {p : Addr} {o : HO} (h : OutOf S p) (hp : H p = some o) (g : Go S H S' H') : OutOf S' p ∧ H' p = some o := by
  refine ⟨⟨?_, fun n hn e => ?_⟩, g.fr p o hp h.c⟩
  · cases e : S'.G p with
    | none => rfl
    | some u => rw [g.gn p u e h.g] at hp; cases hp
  · by_cases hs : n < S.μ.length
    · rw [g.ag n hs] at e; exact h.c n hs e
    · have := g.nw n (Nat.le_of_not_lt hs) hn
      rw [e, hp] at this; cases this
theorem Rel.updOut {K : PySem.W.Frag} {S : S3} {H : Hp} {p : Addr} {o : HO} (r : Rel K S H) (h : OutOf S p) : Rel K S (L2.upd H p o) where
  cn := r.cn
  gh := fun a u e => by rw [upd_ne (fun z => by rw [z, h.g] at e; cases e)]; exact r.gh a u e
  inj := r.inj
  cell := fun i c e => by
    obtain ⟨h1, u, h2, h3⟩ := r.cell i c e
    exact ⟨h1, u, by rw [upd_ne (h.c i (List.getElem?_eq_some_iff.mp e).1)]; exact h2, h3⟩
theorem Go.updOut {S S' : S3} {H H' : Hp} {p : Addr} {o : HO} (g : Go S H S' H') (h : H p = none) : Go S H S' (L2.upd H' p o) :=
  ⟨g.len, g.ag, g.gg, fun a u e hn => by rw [upd_ne (ne_of_none e h)]; exact g.fr a u e hn, fun a e => by
    by_cases ha : a = p
    · rw [ha]; exact h
    · rw [upd_ne ha] at e; exact g.st a e, g.nw, g.gn⟩
/-- a list that was ours alone is given out -/
theorem Rel.hand {K : PySem.W.Frag} {S : S3} {H : Hp} {p : Addr} {o : HO} (r : Rel K S H) (h : OutOf S p) (hp : H p = some o) : Rel K (S.put p o) H where
  cn := r.cn
  gh := fun a u e => by
    have e1 : L2.upd S.G p o a = some u := e
    by_cases ha : a = p
    · subst ha; rw [upd_same] at e1; cases e1; exact hp
    · rw [upd_ne ha] at e1; exact r.gh a u e1
  inj := r.inj
  cell := fun i c e => by
    obtain ⟨h1, u, h2, h3⟩ := r.cell i c e
    have ne := h.c i (List.getElem?_eq_some_iff.mp e).1
    exact ⟨by show L2.upd S.G p o (S.ι i) = none; rw [upd_ne ne]; exact h1, u, h2, h3.mono (sub_upd h.g) (Nat.le_refl _) fun _ _ => rfl⟩
theorem Go.hand {S S' : S3} {H H' : Hp} {p : Addr} {o : HO} (g : Go S H S' H') (h : OutOf S' p) (hp : H p = none) : Go S H (S'.put p o) H' :=
  ⟨g.len, g.ag, g.gg.trans (sub_upd h.g), g.fr, g.st, g.nw, fun a u e1 e2 => by
    by_cases ha : a = p
    · rw [ha]; exact hp
    · have e3 : L2.upd S'.G p o a = some u := e1
      rw [upd_ne ha] at e3
      exact g.gn a u e3 e2⟩
def mComp (mi : Env → M (List D)) (vs : List Nat) (t : TgD) (c : Env → M Bool) (e : EM) : EM := fun ρ => (mi ρ).bnd fun ds => if ds.length ≤ sizeLine then (noX (compL t c e (wipeD ρ vs) ds)).bnd fun ys => M.ret (.lst ys) else M.bad
def cYes : Env → M Bool := fun _ => M.ret true
abbrev WF : WX := fun _ _ _ _ => False
/-- what a comprehension that has come so far is to reach; S, H: ahead of it -/
def PostC (K : PySem.W.Frag) (S : S3) (H : Hp) (L : Addr) (acc : List D) (Q : VK) : Res (List D) → Prop
  | .ok ys μ' => ∀ S' H' accV, S'.μ = μ' → Rel K S' H' → Go S H S' H' → OutOf S' L → H' L = some (.lst accV) → RepL K S' accV (acc ++ ys) → Q (.ref L) H'
  | _ => False
theorem lc_read {K : PySem.W.Frag} {W : WX} {mi : Env → M (List D)} {vs : List Nat} {t : TgD} {c : Env → M Bool} {e : EM} {σ : St} {H : Hp} {Q : VK} (h : tE K W (mComp mi vs t c e) σ H Q) : tLc (tI K W mi) (tT K vs t) (tB K WF c) (tE K WF e) vs σ H Q := by
  obtain ⟨S, ρ, r, rs, p⟩ := h
  refine ⟨S, ρ, r, rs, ?_⟩
  unfold mComp M.bnd at p
  simp only at p
  revert p
  cases mi ρ S.μ with
  | exc c d μ' => exact fun p => p
  | bad => exact fun p => p
  | ok ds μ' =>
    simp only
    by_cases hz : ds.length ≤ sizeLine
    case neg => rw [if_neg hz]; exact fun p => p.elim
    rw [if_pos hz]
    intro p S1 H1 J e1 r1 g1 it L hL
    have o1 : OutOf S1 L := ⟨r1.fresh hL, r1.notCell hL⟩
    have pc0 : PostC K S1 H1 L [] Q (compL t c e (wipeD ρ vs) ds S1.μ) := by
      rw [e1]
      revert p
      unfold noX
      cases compL t c e (wipeD ρ vs) ds μ' with
      | ok ys μ2 =>
        intro p S2 H2 accV e2 r2 g2 o2 h2 hr2
        exact p (S2.put L (.lst accV)) H2 _ e2 (r2.hand o2 h2) ((g1.trans g2).hand o2 (g1.st L hL)) ⟨L, accV, rfl, put_self, RepL.ext hr2 ⟨sub_upd o2.g, Nat.le_refl _, fun _ _ => rfl⟩⟩
      | exc a b c => exact fun p => p
      | bad => exact fun p => p
    refine ⟨fun i m H2 => m = ds.length - i ∧ i ≤ ds.length ∧ ∃ S' accV acc, Rel K S' H2 ∧ Go S1 H1 S' H2 ∧ OutOf S' L ∧ H2 L = some (.lst accV) ∧ RepL K S' accV acc ∧ acc.length ≤ i ∧ PostC K S1 H1 L acc Q (compL t c e (wipeD ρ vs) (ds.drop i) S'.μ),
      ⟨_, rfl, Nat.zero_le _, S1, [], [], r1.updOut o1, (Go.refl _ _).updOut hL, o1, upd_same, rfl, Nat.le_refl _, by rw [List.drop_zero]; exact pc0⟩, ?_⟩
    rintro i m H2 ⟨rfl, hi, S', accV, acc, r', x', o', h', hr', hn', pc⟩
    by_cases hlt : i < ds.length
    case neg =>
      have ei : i = ds.length := by omega
      subst ei
      rw [List.drop_length] at pc
      exact .inl ⟨it.stop S' H2 x'.ext r', pc S' H2 accV rfl r' x' o' h' (by rw [List.append_nil]; exact hr')⟩
    refine .inr ⟨it.go S' H2 i x'.ext r' hlt, fun H3 => (i + 1) ≤ ds.length ∧ ∃ S' accV acc, Rel K S' H3 ∧ Go S1 H1 S' H3 ∧ OutOf S' L ∧ H3 L = some (.lst accV) ∧ RepL K S' accV acc ∧ acc.length ≤ i + 1 ∧ PostC K S1 H1 L acc Q (compL t c e (wipeD ρ vs) (ds.drop (i + 1)) S'.μ),
      fun H3 q => ⟨ds.length - (i + 1), by omega, rfl, q.1, q.2⟩, fun x H3 hy => ?_⟩
    obtain ⟨S2, d, hd, eμ, r2, g2, hv⟩ := it.yld S' H2 i x H3 x'.ext r' hlt hy
    have ed : ds.drop i = d :: ds.drop (i + 1) := by
      rw [List.drop_eq_getElem_cons hlt]
      rw [List.getElem?_eq_getElem hlt] at hd
      cases hd
      rfl
    rw [ed] at pc
    unfold compL at pc
    obtain ⟨o2, h2⟩ := o'.go h' g2
    cases et : t d (wipeD ρ vs) with
    | none => rw [et] at pc; exact pc.elim
    | some ρ1 =>
      rw [et] at pc
      simp only at pc
      have rsw : RepS K S2 (wipe σ vs) (wipeD ρ vs) := wipe_rep (RepS.ext rs (g1.ext.trans (x'.ext.trans g2.ext))) vs
      refine ⟨S2, wipeD ρ vs, d, ρ1, r2, rsw, hv, et, fun σ2 hl hj rs2 => ⟨wipe_same hl hj, S2, ρ1, r2, rs2, ?_⟩⟩
      rw [← eμ] at pc
      unfold M.bnd noX at pc
      revert pc
      cases c ρ1 S2.μ with
      | exc a b d => exact fun pc => pc.elim
      | bad => exact fun pc => pc.elim
      | ok k μ3 =>
        intro pc S3 H4 k' e3 r3 g3 ek
        cases ek
        obtain ⟨o3, h3⟩ := o2.go h2 g3
        simp only at pc
        cases k with
        | false =>
          rw [if_neg (by decide)] at pc ⊢
          exact ⟨hlt, S3, accV, acc, r3, (x'.trans g2).trans g3, o3, h3, RepL.ext hr' (g2.ext.trans g3.ext), Nat.le_succ_of_le hn', by rw [e3]; exact pc⟩
        | true =>
          rw [if_pos rfl] at pc ⊢
          refine ⟨S3, ρ1, r3, rs2.go g3, ?_⟩
          rw [e3]
          revert pc
          simp only
          cases e ρ1 μ3 with
          | exc a b d => exact fun pc => pc.elim
          | bad => exact fun pc => pc.elim
          | ok y μ4 =>
            simp only
            intro pc S4 H5 yv e4 r4 g4 hyv
            obtain ⟨o4, h4⟩ := o3.go h3 g4
            have lenA := (show RepL K S' accV acc from hr').length
            refine ⟨accV, h4, by omega, hlt, S4, accV ++ [yv], acc ++ [y], r4.updOut o4, (((x'.trans g2).trans g3).trans g4).updOut hL, o4, upd_same, ?_, by simp; omega, ?_⟩
            · exact (RepL.ext hr' ((g2.ext.trans g3.ext).trans g4.ext)).append ⟨yv, [], rfl, hyv, rfl⟩
            · rw [e4]
              revert pc
              cases compL t c e (wipeD ρ vs) (ds.drop (i + 1)) μ4 with
              | ok ys μ5 => exact fun pc S5 H6 accW e5 r5 g5 o5 h5 hr5 => pc S5 H6 accW e5 r5 g5 o5 h5 (by simpa using hr5)
              | exc _ _ _ => exact fun pc => pc.elim
              | bad => exact fun pc => pc.elim
/-- [elt for target in iter if ..] -/
theorem fe_comp {X : Cx} {W : WX} {pos : Pos} {elt tg iter : Expr} {ifs : List Expr} {scope : Scope} {own : List (Str × Nat)} {mi : Env → M (List D)} {t : TgD} {c : Env → M Bool} {e : EM} (hc : X.calm = true) (hN : X.N.Nodup) (hi : PI X tg iter (tI X.K W mi)) (ok : BlkOk X.N X.env.scope scope own)
    (hg : ∀ (s : Shared) (H : Hp) (C : Addr) (cl : List (Str × Addr)) (fp : List Addr), PG (X.blk s H scope (compEnvC scope cl C X.env) fp) tg (tT X.K (own.map (·.2)) t))
    (ht : ∀ (s : Shared) (H : Hp) (C : Addr) (cl : List (Str × Addr)) (fp : List Addr), PTs (X.blk s H scope (compEnvC scope cl C X.env) fp) ifs (tB X.K WF c))
    (he : ∀ (s : Shared) (H : Hp) (C : Addr) (cl : List (Str × Addr)) (fp : List Addr), PE (X.blk s H scope (compEnvC scope cl C X.env) fp) elt (tE X.K WF e)) (hs : ∀ x, foldedSetIterable iter X.env x = pure x := by intro _; rfl) :
    PE X (.ListComp elt [⟨tg, iter, ifs, 0⟩] scope pos) (tE X.K W (mComp mi (own.map (·.2)) t c e)) := (pe_lc hc hN hi ok hg ht he hs).imp fun _ _ _ h => lc_read h
theorem fts_nil {X : Cx} {W : WX} : PTs X [] (tB X.K W cYes) := ⟨fun pins s σ H Q I ⟨S, ρ, r, rs, p⟩ => pts_nil.run pins s σ H Q I (p S H true rfl r (Go.refl _ _) rfl)⟩
theorem fts_one {X : Cx} {W : WX} {c : Expr} {m : Env → M Bool} (h : PT X c (tB X.K W m)) : PTs X [c] (tB X.K W m) := pts_one h
/-- name = [..] on one line -/
theorem fs_setComp (i : Nat) {X : Cx} {W : WX} {y : Str} {py pos spos : Pos} {elt tg iter : Expr} {ifs : List Expr} {scope : Scope} {own : List (Str × Nat)} {mi : Env → M (List D)} {t : TgD} {c : Env → M Bool} {e : EM} (hc : X.calm = true) (hN : X.N.Nodup) (hy : X.N[i]? = some y) (hyl : X.env.scope.names.lookup y = some .local)
    (hsw : swapsWith (.ListComp elt [⟨tg, iter, ifs, 0⟩] scope pos) (some (.Name y py)) spos.line X.env = pure true) (hi : PI X tg iter (tI X.K W mi)) (ok : BlkOk X.N X.env.scope scope own)
    (hg : ∀ (s : Shared) (H : Hp) (C : Addr) (cl : List (Str × Addr)) (fp : List Addr), PG (X.blk s H scope (compEnvC scope cl C X.env) fp) tg (tT X.K (own.map (·.2)) t))
    (ht : ∀ (s : Shared) (H : Hp) (C : Addr) (cl : List (Str × Addr)) (fp : List Addr), PTs (X.blk s H scope (compEnvC scope cl C X.env) fp) ifs (tB X.K WF c))
    (he : ∀ (s : Shared) (H : Hp) (C : Addr) (cl : List (Str × Addr)) (fp : List Addr), PE (X.blk s H scope (compEnvC scope cl C X.env) fp) elt (tE X.K WF e)) (hs : ∀ x, foldedSetIterable iter X.env x = pure x := by intro _; rfl) :
    PS X (.Assign [.Name y py] (.ListComp elt [⟨tg, iter, ifs, 0⟩] scope pos) spos) (tS X.K W (sSet i (mComp mi (own.map (·.2)) t c e))) :=
  (ps_setLc hc hN hy hyl hsw hi ok hg ht he hs).imp fun T σ H ⟨S, ρ, r, rs, p⟩ => lc_read ⟨S, ρ, r, rs, (thenS_read (R := Rep X.K) rs p).imp fun v H1 ⟨S1, d, r1, g1, rs1, hv, p1⟩ => p1 S1 H1 _ rfl r1 (Go.refl _ _) (rs1.set hv)⟩
end FL

namespace FL
open PySem L2
/-! ### things that are walked -/
def chrs (z : Str) : List D := z.cps.toList.map fun c => D.str ⟨#[c]⟩
/-- the items of what never changes -/
def itemsD : D → Option (List D)
  | .lst ds => some ds
  | .tup ds => some ds
  | .str z => some (chrs z)
  | .scr ns => some (ns.map D.int)
  | _ => none
def iSeq (m : EM) : Env → M (List D) := fun ρ => (m ρ).bnd fun d => ofO (itemsD d)
/-- the things that are lists at every later time -/
theorem sqL_stay {K : PySem.W.Frag} {S : S3} {a : Addr} {xs : List V} (h : S.G a = some (.lst xs) ∨ ∃ o, S.G a = some (.frz o (.lst xs))) {S' : S3} {H' : Hp} (x : ExtS S S') (r : Rel K S' H') : SqL K H' a xs := by
  rcases h with h | ⟨o, h⟩
  · exact .inl (.inl (r.gh _ _ (x.gg _ _ h)))
  · exact .inl (.inr ⟨o, r.gh _ _ (x.gg _ _ h)⟩)
theorem IterD.lst {K : PySem.W.Frag} {S : S3} {a : Addr} {xs : List V} {ds : List D} (h : S.G a = some (.lst xs) ∨ ∃ o, S.G a = some (.frz o (.lst xs))) (hr : RepL K S xs ds) : IterD K (Itl K a) S ds where
  go := fun S' H' i x r hi => by
    have hx : i < xs.length := by rw [hr.length]; exact hi
    exact ⟨xs, xs[i], sqL_stay h x r, List.getElem?_eq_getElem hx⟩
  stop := fun S' H' x r => ⟨xs, sqL_stay h x r, by rw [hr.length]; exact Nat.le_refl _⟩
  yld := fun S' H' i v H'' x r hi hy => by
    obtain ⟨rfl, hy⟩ := hy
    obtain ⟨d, h1, h2⟩ := hr.get (hy xs (sqL_stay h x r))
    exact ⟨S', d, h1, rfl, r, Go.refl _ _, Rep.ext h2 x⟩
theorem IterD.tup {K : PySem.W.Frag} {S : S3} {a : Addr} {xs : List V} {ds : List D} (h : S.G a = some (.tup xs)) (hr : RepL K S xs ds) : IterD K (Itt K a) S ds := by
  have st : ∀ {S' H'}, ExtS S S' → Rel K S' H' → SqT K H' a xs := fun x r => sqT_of (r.gh _ _ (x.gg _ _ h))
  exact {
    go := fun S' H' i x r hi => by
      have hx : i < xs.length := by rw [hr.length]; exact hi
      exact ⟨xs, xs[i], st x r, List.getElem?_eq_getElem hx⟩
    stop := fun S' H' x r => ⟨xs, st x r, by rw [hr.length]; exact Nat.le_refl _⟩
    yld := fun S' H' i v H'' x r hi hy => by
      obtain ⟨rfl, hy⟩ := hy
      obtain ⟨d, h1, h2⟩ := hr.get (hy xs (st x r))
      exact ⟨S', d, h1, rfl, r, Go.refl _ _, Rep.ext h2 x⟩ }
theorem IterD.str {K : PySem.W.Frag} {S : S3} {z : Str} : IterD K (Its z) S (chrs z) where
  go := fun S' H' i x r hi => by
    show i < z.cps.size
    simpa [chrs] using hi
  stop := fun S' H' x r => by
    show z.cps.size ≤ _
    simp [chrs]
  yld := fun S' H' i v H'' x r hi hy => by
    obtain ⟨rfl, c, hc, rfl⟩ := hy
    refine ⟨S', .str ⟨#[c]⟩, ?_, rfl, r, Go.refl _ _, rfl⟩
    unfold chrs
    rw [List.getElem?_map, Array.getElem?_toList, hc]
    rfl
theorem IterD.rng {K : PySem.W.Frag} {S : S3} {lo : Int} {n : Nat} : IterD K (Itr lo n) S ((List.range n).map fun i => D.int (lo + (i : Nat))) where
  go := fun S' H' i x r hi => by
    show i < n
    simpa using hi
  stop := fun S' H' x r => by
    show n ≤ _
    simp
  yld := fun S' H' i v H'' x r hi hy => by
    obtain ⟨rfl, rfl⟩ := hy
    refine ⟨S', .int (lo + (i : Nat)), ?_, rfl, r, Go.refl _ _, rfl⟩
    have hn : i < n := by simpa using hi
    rw [List.getElem?_map, List.getElem?_range hn]
    rfl
section
variable {X : Cx} {W : WX} {tg e : Expr} {m : EM} {ms : Env → M (List D)} {p pos tpos : Pos}
theorem fi_seq (he : PE X e (tE X.K W m)) : PI X tg e (tI X.K W (iSeq m)) := by
  refine ⟨fun pins s σ H R I h => ?_⟩
  obtain ⟨S, ρ, r, rs, p⟩ := h
  unfold iSeq M.bnd ofO at p
  simp only at p
  cases e1 : m ρ S.μ with
  | bad => rw [e1] at p; exact p.elim
  | exc c d μ' =>
    rw [e1] at p
    refine (pi_list he).run pins s σ H R I ⟨S, ρ, r, rs, ?_⟩
    rw [e1]
    exact p
  | ok d μ' =>
    rw [e1] at p
    simp only at p
    cases d with
    | lst ds =>
      refine (pi_list he).run pins s σ H R I ⟨S, ρ, r, rs, ?_⟩
      rw [e1]
      intro S' H' v eμ r' g hv
      obtain ⟨a, xs, rfl, h1, h2⟩ := hv
      exact ⟨a, rfl, ⟨xs, sqL_of (r'.gh _ _ h1)⟩, p S' H' _ eμ r' g (IterD.lst (.inl h1) h2)⟩
    | scr ns =>
      refine (pi_list he).run pins s σ H R I ⟨S, ρ, r, rs, ?_⟩
      rw [e1]
      intro S' H' v eμ r' g hv
      obtain ⟨a, o, rfl, h1⟩ := hv
      exact ⟨a, rfl, ⟨_, .inl (.inr ⟨o, r'.gh _ _ h1⟩)⟩, p S' H' _ eμ r' g (IterD.lst (.inr ⟨o, h1⟩) (RepL.mkInts ns))⟩
    | tup ds =>
      refine (pi_tup he).run pins s σ H R I ⟨S, ρ, r, rs, ?_⟩
      rw [e1]
      intro S' H' v eμ r' g hv
      obtain ⟨a, xs, rfl, h1, h2⟩ := hv
      exact ⟨a, rfl, ⟨xs, sqT_of (r'.gh _ _ h1)⟩, p S' H' _ eμ r' g (IterD.tup h1 h2)⟩
    | str z =>
      refine (pi_str he).run pins s σ H R I ⟨S, ρ, r, rs, ?_⟩
      rw [e1]
      intro S' H' v eμ r' g hv
      exact ⟨z, hv, p S' H' _ eμ r' g IterD.str⟩
    | _ => exact p.elim
/-- range -/
def rngD1 (ds : List D) : Option (List D) := match ds with
  | [.int j] => if -(2 ^ 62) ≤ j ∧ j < 2 ^ 62 then some ((List.range j.toNat).map fun i => D.int (0 + (i : Nat))) else none
  | _ => none
def rngD2 (ds : List D) : Option (List D) := match ds with
  | [.int i, .int j] => if (-(2 ^ 62) ≤ i ∧ i < 2 ^ 62) ∧ (-(2 ^ 62) ≤ j ∧ j < 2 ^ 62) then some ((List.range (j - i).toNat).map fun k => D.int (i + (k : Nat))) else none
  | _ => none
def iArgs (f : List D → Option (List D)) (ms : Env → M (List D)) : Env → M (List D) := fun ρ => (ms ρ).bnd fun ds => ofO (f ds)
theorem tG.imp {α β : Type} {K : PySem.W.Frag} {Rr : S3 → β → α → Prop} {m : Env → M α} {σ : St} {H : Hp} {Q Q' : β → Hp → Prop} (h : tG K Rr W m σ H Q) (k : ∀ v H1, Q v H1 → Q' v H1) : tG K Rr W m σ H Q' := by
  obtain ⟨S, ρ, r, rs, p⟩ := h
  exact ⟨S, ρ, r, rs, p.imp k⟩
/-- an iterator of the arguments -/
theorem tI_args {f : List D → Option (List D)} {σ : St} {H : Hp} {R : It → Hp → Prop} (h : tI X.K W (iArgs f ms) σ H R) :
    tA X.K W ms σ H fun vs H1 => ∃ S1 ds is, Rel X.K S1 H1 ∧ RepL X.K S1 vs ds ∧ f ds = some is ∧ ∀ J, IterD X.K J S1 is → R J H1 := by
  obtain ⟨S, ρ, r, rs, p⟩ := h
  refine ⟨S, ρ, r, rs, ?_⟩
  unfold iArgs M.bnd ofO at p
  simp only at p
  revert p
  cases ms ρ S.μ with
  | bad => exact fun p => p.elim
  | exc c d μ' => exact fun p => p
  | ok ds μ' =>
    simp only
    cases e : f ds with
    | none => exact fun p => p.elim
    | some is => exact fun p S' H' vs eμ r' g hv => ⟨S', ds, is, r', hv, e, fun J it => p S' H' J eμ r' g it⟩
theorem fi_range1 {a : Expr} (hg : Gl X "range") (hm : X.mg "range" = none) (ha : PA X [a] (tA X.K W ms)) (hs : starEach [a] X.env = [(false, eval a X.env)] := by rfl) : PI X tg (.Call (.Name "range" p) [a] [] pos) (tI X.K W (iArgs rngD1 ms)) := by
  refine ⟨fun pins s σ H R I h => (pi_range1 hg hm ha hs).run pins s σ H R I ((tI_args h).imp ?_)⟩
  rintro vs H1 ⟨S1, ds, is, r, hv, e, k⟩
  unfold rngD1 at e
  split at e
  · rename_i j
    split at e
    · rename_i hj
      cases e
      obtain ⟨x, rfl, hx⟩ := repL1 hv
      rw [show x = V.int j from hx]
      exact ⟨j, rfl, hj.1, hj.2, k _ IterD.rng⟩
    · cases e
  · cases e
theorem fi_range2 {a b : Expr} (hg : Gl X "range") (hm : X.mg "range" = none) (ha : PA X [a, b] (tA X.K W ms)) (hs : starEach [a, b] X.env = [(false, eval a X.env), (false, eval b X.env)] := by rfl) (hs2 : starEach [b] X.env = [(false, eval b X.env)] := by rfl) :
    PI X tg (.Call (.Name "range" p) [a, b] [] pos) (tI X.K W (iArgs rngD2 ms)) := by
  refine ⟨fun pins s σ H R I h => (pi_range2 hg hm ha hs hs2).run pins s σ H R I ((tI_args h).imp ?_)⟩
  rintro vs H1 ⟨S1, ds, is, r, hv, e, k⟩
  unfold rngD2 at e
  split at e
  · rename_i i j
    split at e
    · rename_i hj
      cases e
      obtain ⟨x, y, rfl, hx, hy⟩ := repL2 hv
      rw [show x = V.int i from hx, show y = V.int j from hy]
      exact ⟨i, j, rfl, ⟨hj.1.1, hj.1.2, hj.2.1, hj.2.2⟩, k _ IterD.rng⟩
    · cases e
  · cases e
/-- enumerate of a list -/
def enumD (ds : List D) : Option (List D) := match ds with
  | [.lst xs] => some (xs.zipIdx.map fun (d, i) => .tup [.int (i : Nat), d])
  | _ => none
theorem putTup {K : PySem.W.Frag} {S : S3} {H : Hp} (r : Rel K S H) {T : Addr} (hT : H T = none) {xs : List V} {ds : List D} (h : RepL K S xs ds) : Rep K (S.put T (.tup xs)) (.ref T) (.tup ds) := ⟨T, xs, rfl, put_self, h.put r hT⟩
theorem fi_enum {elts : List Expr} {kk : Nat} (hg : Gl X "enumerate") (hm : X.mg "enumerate" = none) (ha : PA X [e] (tA X.K W ms)) (hs : starEach [e] X.env = [(false, eval e X.env)] := by rfl) :
    PI X (.Tuple elts kk tpos) (.Call (.Name "enumerate" p) [e] [] pos) (tI X.K W (iArgs enumD ms)) := by
  refine ⟨fun pins s σ H R I h => (pi_enum hg hm ha hs).run pins s σ H R I ((tI_args h).imp ?_)⟩
  rintro vs H1 ⟨S1, ds, is, r, hv, e, k⟩
  unfold enumD at e
  split at e
  · rename_i xs
    cases e
    obtain ⟨x, rfl, a, ys, rfl, h1, h2⟩ := repL1 hv
    have st : ∀ {S' H'}, ExtS S1 S' → Rel X.K S' H' → SqL X.K H' a ys := fun x r => sqL_of (r.gh _ _ (x.gg _ _ h1))
    refine ⟨a, ys, rfl, sqL_of (r.gh _ _ h1), k _ ?_⟩
    exact {
      go := fun S' H' i x r' hi => by
        have hl : i < ys.length := by rw [RepL.length h2]; simpa using hi
        exact ⟨ys, ys[i], st x r', List.getElem?_eq_getElem hl⟩
      stop := fun S' H' x r' => ⟨ys, st x r', by rw [RepL.length h2]; simp⟩
      yld := fun S' H' i v H'' x r' hi hy => by
        obtain ⟨T, y, rfl, hT, rfl, hy⟩ := hy
        obtain ⟨d, d1, d2⟩ := RepL.get h2 (hy ys (st x r'))
        refine ⟨S'.put T (.tup [.int (i : Nat), y]), .tup [.int (i : Nat), d], ?_, rfl, r'.put hT, r'.goPut hT, putTup r' hT (RepL.cons (d := .int (i : Nat)) rfl (RepL.cons (Rep.ext d2 x) rfl))⟩
        rw [List.getElem?_map, List.getElem?_zipIdx, d1]
        simp }
  · cases e
/-- zip of lists, of tuples -/
def zipL (xs ys : List D) : List D := (xs.zip ys).map fun (a, b) => .tup [a, b]
def zipD (ds : List D) : Option (List D) := match ds with
  | [.lst xs, .lst ys] => some (zipL xs ys)
  | [.tup xs, .tup ys] => some (zipL xs ys)
  | _ => none
theorem zipL_get {xs ys : List D} {i : Nat} {x y : D} (hx : xs[i]? = some x) (hy : ys[i]? = some y) : (zipL xs ys)[i]? = some (.tup [x, y]) := by
  unfold zipL
  rw [List.getElem?_map, List.getElem?_zip_eq_some (z := (x, y)) |>.mpr ⟨hx, hy⟩]
  rfl
theorem zipL_length {xs ys : List D} : (zipL xs ys).length = min xs.length ys.length := by simp [zipL]
theorem fi_zip {e2 : Expr} {elts : List Expr} {kk : Nat} (hg : Gl X "zip") (hm : X.mg "zip" = none) (ha : PA X [e, e2] (tA X.K W ms)) (hs : starEach [e, e2] X.env = (false, eval e X.env) :: starEach [e2] X.env := by rfl) (hpl : (backTo pos (starEach [e2] X.env)).any (·.1) = false := by rfl) :
    PI X (.Tuple elts kk tpos) (.Call (.Name "zip" p) [e, e2] [] pos) (tI X.K W (iArgs zipD ms)) := by
  refine ⟨fun pins s σ H R I h => (RZ.pi_zipA hg hm ha hs hpl).run pins s σ H R I ((tI_args h).imp ?_)⟩
  rintro vs H1 ⟨S1, ds, is, r, hv, e, k⟩
  unfold zipD at e
  split at e
  · rename_i xs ys
    cases e
    obtain ⟨x, y, rfl, ⟨a, as, rfl, a1, a2⟩, ⟨b, bs, rfl, b1, b2⟩⟩ := repL2 hv
    have sa : ∀ {S' H'}, ExtS S1 S' → Rel X.K S' H' → SqL X.K H' a as := fun x r => sqL_of (r.gh _ _ (x.gg _ _ a1))
    have sb : ∀ {S' H'}, ExtS S1 S' → Rel X.K S' H' → SqL X.K H' b bs := fun x r => sqL_of (r.gh _ _ (x.gg _ _ b1))
    have la := RepL.length a2
    have lb := RepL.length b2
    refine ⟨a, b, as, bs, rfl, .inl ⟨sqL_of (r.gh _ _ a1), sqL_of (r.gh _ _ b1), k _ ?_⟩⟩
    exact {
      go := fun S' H' i x r' hi => by
        rw [zipL_length] at hi
        exact ⟨as, bs, as[i], bs[i], sa x r', sb x r', List.getElem?_eq_getElem (by omega), List.getElem?_eq_getElem (by omega)⟩
      stop := fun S' H' x r' => ⟨as, bs, sa x r', sb x r', by rw [zipL_length]; omega⟩
      yld := fun S' H' i v H'' x r' hi hy => by
        obtain ⟨T, u, w, rfl, hT, rfl, hu, hw⟩ := hy
        obtain ⟨d, d1, d2⟩ := RepL.get a2 (hu as (sa x r'))
        obtain ⟨d', d1', d2'⟩ := RepL.get b2 (hw bs (sb x r'))
        exact ⟨S'.put T (.tup [u, w]), .tup [d, d'], zipL_get d1 d1', rfl, r'.put hT, r'.goPut hT, putTup r' hT (RepL.cons (Rep.ext d2 x) (RepL.cons (Rep.ext d2' x) rfl))⟩ }
  · rename_i xs ys
    cases e
    obtain ⟨x, y, rfl, ⟨a, as, rfl, a1, a2⟩, ⟨b, bs, rfl, b1, b2⟩⟩ := repL2 hv
    have sa : ∀ {S' H'}, ExtS S1 S' → Rel X.K S' H' → SqT X.K H' a as := fun x r => sqT_of (r.gh _ _ (x.gg _ _ a1))
    have sb : ∀ {S' H'}, ExtS S1 S' → Rel X.K S' H' → SqT X.K H' b bs := fun x r => sqT_of (r.gh _ _ (x.gg _ _ b1))
    have la := RepL.length a2
    have lb := RepL.length b2
    refine ⟨a, b, as, bs, rfl, .inr ⟨sqT_of (r.gh _ _ a1), sqT_of (r.gh _ _ b1), k _ ?_⟩⟩
    exact {
      go := fun S' H' i x r' hi => by
        rw [zipL_length] at hi
        exact ⟨as, bs, as[i], bs[i], sa x r', sb x r', List.getElem?_eq_getElem (by omega), List.getElem?_eq_getElem (by omega)⟩
      stop := fun S' H' x r' => ⟨as, bs, sa x r', sb x r', by rw [zipL_length]; omega⟩
      yld := fun S' H' i v H'' x r' hi hy => by
        obtain ⟨T, u, w, rfl, hT, rfl, hu, hw⟩ := hy
        obtain ⟨d, d1, d2⟩ := RepL.get a2 (hu as (sa x r'))
        obtain ⟨d', d1', d2'⟩ := RepL.get b2 (hw bs (sb x r'))
        exact ⟨S'.put T (.tup [u, w]), .tup [d, d'], zipL_get d1 d1', rfl, r'.put hT, r'.goPut hT, putTup r' hT (RepL.cons (Rep.ext d2 x) (RepL.cons (Rep.ext d2' x) rfl))⟩ }
  · cases e
end
end FL

/-! an own error: class c over HasError over Exception, its __init__(self, f): super().__init__(f); self.f = f -/
namespace FL
open PySem PySem.W PySem.Calls PyProof.Rows PySem.Spec
abbrev exB : List Value := [.type "Exception", .type "BaseException", .type "object"]
def iA (f : Str) (p1 p2 : Pos) : Arguments := { posonlyargs := [], args := [{ arg := "self", annotation := none, pos := p1 }, { arg := f, annotation := none, pos := p2 }], vararg := none, kwonlyargs := [], kw_defaults := [], kwarg := none, defaults := [] }
def iB (f : Str) (p0 p1 p2 p3 p4 p5 q1 q2 q3 q4 : Pos) : List Stmt := [.Expr (.Call (.Attribute (.Call (.Name "super" p0) [] [] p1) "__init__" p2) [.Name f p3] [] p4) p5, .Assign [.Attribute (.Name "self" q1) f q2] (.Name f q3) q4]
def iS (f : Str) : Scope := { kind := .function, names := [(PySem.Str.ofString "self", .local), (f, .local), (PySem.Str.ofString "__class__", .free), (PySem.Str.ofString "super", .globalImplicit)], isGenerator := false, isCoroutine := false, more := [] }
/-- the fields -/
def OkF (f : Str) : Prop := f = "value" ∨ f = "name" ∨ f = "at" ∨ f = "number" ∨ f = "line"
structure ErrC (P : Program) (K : Frag) (mg : Str → Option Value) (c f : Str) (C fI : Addr) : Prop where
  okf : OkF f
  gC : mg c = some (.ref C)
  q1 : excInitIn K C exB "Exception.__new__" = true
  q2 : excOver K C exB = true
  hd : hasDictIn K C = true
  sa : findIn K (.ref C) "__setattr__" = some (some (.builtin "object.__setattr__"))
  ga : findIn K (.ref C) "__getattribute__" = some (some (.builtin "BaseException.__getattribute__"))
  gg : findIn K (.ref C) "__getattr__" = some none
  noN : findIn K (.ref C) f = some none
  iC : findIn K (.ref C) "__init__" = some (some (.ref fI))
  tC : typeIn K (.ref fI) = some (.type "function")
  kC : keepIn K (.ref C) = true
  exC : subIn K (.ref C) (.type "BaseException") = some true
  sE : subIn K (.ref C) (.type "Exception") = some true
  tyC : typeIn K (.ref C) = some (.type "type")
  mr : mroIn K C (.ref C) = some true
  sup : mg "super" = none
  top : (P.main.scope.names.lookup ("super" : Str)).isSome = false
  any : nsIn K cStatics "thirdparty.any" = some none
  ini : ks_superIn K C C "__init__" = some (some (.builtin "Exception.__init__"))
  fn : ∃ (oc : Value) (od : Option Addr) (kV doc pm : Value) (an : Option Addr) (cda : Addr) (ct : Value) (osl : Array (Option Value)) (cc : Addr) (qual : Str) (p1 p2 : Pos) (p0 p3 p4 p5 p6 p7 q1 q2 q3 q4 : Pos) (ccl cl : Value) (cdd cld : Option Addr) (ccs csl : Array (Option Value)) (vs : Array Value) (file : Str) (tf : Tok),
    K.lookup fI = some ⟨oc, od, .func (ksFn "__init__" qual (iA f p1 p2) (iB f p0 p3 p4 p5 p6 p7 q1 q2 q3 q4) (iS f) .none kV doc pm an (.ref cda) ct cc), osl⟩ ∧ codeIn K (.ref cda) qual = true ∧
    K.lookup cc = some ⟨cl, cld, .cell (some (.ref C)), csl⟩ ∧ K.lookup cda = some ⟨ccl, cdd, .fields vs, ccs⟩ ∧ vs[2]? = some (.str file tf) ∧ ((P.main.file : Str) == file) = true ∧ (p4.endLine == p6.line) = true
structure GlobAt (mg : Str → Option Value) (h : Heap) : Prop where
  g : h.Ns mainGlobals mg
  b : ∃ mb, h.Ns builtinsNs mb ∧ ∀ x : Str, x ≠ "__name__" → mb x = bootBuiltins x
theorem GlobAt.keeps {mg : Str → Option Value} {h h' : Heap} (G : GlobAt mg h) (k : ∀ b o, h.get? b = some o → h'.get? b = some o) : GlobAt mg h' := ⟨G.g.keeps k, let ⟨mb, h1, h2⟩ := G.b; ⟨mb, h1.keeps k, h2⟩⟩
/-- what __init__ leaves of a fresh exception at x -/
structure InitEnd (f : Str) (h h' : Heap) (x C dx t1 : Addr) (v : Value) : Prop where
  keep : ∀ b o, b ≠ x → h.get? b = some o → h'.get? b = some o
  obj : h'.get? x = some { cls := .ref C, dict := some dx, data := .fields #[.ref t1, .none, .none, .none, .bool false, .none] }
  dbig : h.objs.size ≤ dx
  dne : dx ≠ x
  ns : h'.Ns1 dx (fun y => if y = f then some v else none)
structure OwnMade (f : Str) (h h' : Heap) (e C d : Addr) (v : Value) : Prop where
  keep : ∀ b o, h.get? b = some o → h'.get? b = some o
  new : h.objs.size ≤ e
  obj : ∃ oe vs, h'.get? e = some oe ∧ oe.cls = .ref C ∧ oe.dict = some d ∧ oe.data = .fields vs ∧ vs[1]? = some .none
  dbig : h.objs.size ≤ d
  dne : d ≠ e
  ns : h'.Ns1 d (fun y => if y = f then some v else none)
section
variable {P : Program} {w : World} {A : Around} {E : Value → Shared → Prop} {R : Result → Shared → Prop} {s : Shared} {K : Frag} {mg : Str → Option Value} {c f : Str} {C fI : Addr}
/-- self.f = v: the first field of an error -/
theorem err_set {hp : Heap} {g : Array GenState} {d : Drawn} {t : Nat} {os : OsState} {tk : Tok} {v : Value} {x : Addr} {fv : Array Value} (T : ErrC P K mg c f C fI) (X : K.In hp) (hx : hp.get? x = some { cls := .ref C, data := .fields fv })
    (hq : ∀ h' tk' dx, (∀ b o, b ≠ x → hp.get? b = some o → h'.get? b = some o) → hp.objs.size ≤ dx → dx ≠ x → h'.get? x = some { cls := .ref C, dict := some dx, data := .fields fv } → h'.Ns1 dx (fun y => if y = f then some v else none) → R (.ok (.ret .none)) ⟨h', g, d, tk', os⟩) :
    codeAny (model P w) A (.call (.builtin "object.__setattr__") ⟨[.ref x, .str f tk, v], []⟩) R ⟨hp, g, d, t, os⟩ := by
  have ht : takerIn K C f = some none := by unfold takerIn; rw [T.noN]; rfl
  refine osa_openX (od := none) PySem.F.store_Exception X ⟨hx, rfl, rfl, trivial⟩ T.q2 ht fun b => ?_
  obtain ⟨cd, hc, hd'⟩ := any_some T.hd
  have hxs : x ≠ hp.objs.size := Nat.ne_of_lt (Heap.lt_size hx)
  have hx1 : (hp.push { cls := .type "dict", data := .dict #[] }).get? x = some { cls := .ref C, data := .fields fv } := Heap.get?_push_of_some _ hx
  have Lc : Looks (model P w) hp (classData C) cd := looks_clsIn X hc
  obtain ⟨n1, n2, n3, n4, n5, n6, n7, n8, n9, n10, n11⟩ := cd
  dsimp only at hd'
  subst hd'
  show wpAny _ _ (Builtin.ObjectAttr.storeInOwnDict (.ref x) (.ref C) (.str f tk) f v b) _ _ _
  unfold Builtin.ObjectAttr.storeInOwnDict Builtin.ObjectAttr.ownDictForStores
  repeat (first | with_reducible refine HandSPX.store_in_new ?_ ?_ | with_reducible refine Looks.at Lc ?_ | with_reducible refine wpAny_loadPart_at hx ?_ | wp_step)
  · exact ⟨_, #[], _, (Heap.get?_update_ne _ _ _ _ hxs.symm).trans (Heap.get?_push_at rfl rfl), rfl, fun e he => absurd he (by simp), fun _ => rfl⟩
  · intro h' tk' hn' hs
    refine hq h' tk' hp.objs.size (fun b o hb ho => ?_) (Nat.le_refl _) hxs.symm ((hs.2 x hxs).trans (Heap.get?_update_self _ hx1 rfl)) hn'
    exact (hs.2 b (Nat.ne_of_lt (Heap.lt_size ho))).trans ((Heap.get?_update_ne _ _ _ _ hb).trans (Heap.get?_push_of_some _ ho))

theorem OkF.self (h : OkF f) : (f == ("self" : Str)) = false := by rcases h with rfl | rfl | rfl | rfl | rfl <;> decide +kernel
theorem OkF.dbg (h : OkF f) : (f == ("__debug__" : Str)) = false := by rcases h with rfl | rfl | rfl | rfl | rfl <;> decide +kernel
theorem iS_f (h : OkF f) : (iS f).names.lookup f = some .local := by rcases h with rfl | rfl | rfl | rfl | rfl <;> rfl
theorem iS_cls (h : OkF f) : (iS f).names.lookup (PySem.Str.ofString "__class__") = some .free := by rcases h with rfl | rfl | rfl | rfl | rfl <;> rfl
theorem iS_sup (h : OkF f) : (iS f).names.lookup (PySem.Str.ofString "super") = some .globalImplicit := by rcases h with rfl | rfl | rfl | rfl | rfl <;> rfl
theorem call_form {env : PySem.Env} {o : Expr} {name : Str} {apos pos p : Pos} (hline : (apos.endLine == pos.line) = true) : eval (.Call (.Attribute o name apos) [.Name f p] [] pos) env = (do
      let ov ← attributeBase o name env (eval o env)
      standAt apos.atName
      let (f', first) ← holding [ov] (getMethod ov name (do return (← importBound o env).getD true))
      callWith pos f' first (backTo pos (starEach [.Name f p] env)) []) := by
  rw [arm_eval_Call]
  have hpos : methodCallPos true o env apos pos = pure pos := by unfold methodCallPos; simp [hline]
  refine congrArg _ (funext fun ov => congrArg _ (funext fun _ => ?_))
  show (do let (f', first) ← holding [ov] (getMethod ov name (do return (← importBound o env).getD true)); callWith (← methodCallPos true o env apos pos) f' first (backTo pos (starEach [.Name f p] env)) []) = _
  rw [hpos]
  rfl
theorem err_init (T : ErrC P K mg c f C fI) {x t0 : Addr} {v : Value} (X : K.In s.heap) (G : GlobAt mg s.heap) (hlim : s.heap.NoLimit) (hx : s.heap.get? x = some (HandSPX.excO C t0)) (hnx : K.lookup x = none) (hroom : A.depth < recursionLimit)
    (hq : ∀ h' tk dx t1, InitEnd f s.heap h' x C dx t1 v → R (.ok (.ret .none)) { s with heap := h', toks := tk }) :
    codeAny (model P w) A (.call (.ref fI) ⟨[.ref x, v], []⟩) R s := by
  obtain ⟨oc, od, kV, doc, pm, an, cda, ct, osl, cc, qual, p1, p2, p0, p3, p4, p5, p6, p7, q1, q2, q3, q4, ccl, cl, cdd, cld, ccs, csl, vs, file, tf, ho, hcd, hcell, hcode, hvs, hfile, hline⟩ := T.fn
  have hsf : (("self" : Str) == f) = false := by
    have := T.okf.self
    rw [beq_eq_false_iff_ne] at this ⊢
    exact Ne.symm this
  have lf : ([(PySem.Str.ofString "self", Value.ref x), (f, v)] : List (Str × Value)).reverse.lookup f = some v := by
    show List.lookup f [(f, v), (PySem.Str.ofString "self", Value.ref x)] = _
    simp [List.lookup_cons]
  have ls : ([(PySem.Str.ofString "self", Value.ref x), (f, v)] : List (Str × Value)).reverse.lookup (PySem.Str.ofString "self") = some (Value.ref x) := by
    show List.lookup ("self" : Str) [(f, v), (PySem.Str.ofString "self", Value.ref x)] = _
    rw [List.lookup_cons, hsf]
    simp [List.lookup_cons]
  refine ks_codeAny_call_defAt (fd := ksFn "__init__" qual (iA f p1 p2) (iB f p0 p3 p4 p5 p6 p7 q1 q2 q3 q4) (iS f) .none kV doc pm an (.ref cda) ct cc) (body := iB f p0 p3 p4 p5 p6 p7 q1 q2 q3 q4) (binds := [("self", .ref x), (f, v)]) hroom (X _ _ ho) rfl hlim (codeRec_of X hcd) rfl (BindsTo.of_eq (by rcases T.okf with rfl | rfl | rfl | rfl | rfl <;> rfl)) ?hc ?hl (fun h1 hns k => ?_) rfl rfl rfl
  case hc =>
    intro y hy
    have hy' : y ∈ ([(PySem.Str.ofString "self", NameKind.local), (f, .local), (PySem.Str.ofString "__class__", .free), (PySem.Str.ofString "super", .globalImplicit)] : List (Str × NameKind)) := hy
    simp only [List.mem_cons, List.not_mem_nil, or_false] at hy'
    rcases hy' with rfl | rfl | rfl | rfl <;> exact fun z => nomatch z
  case hl =>
    intro y hy
    simp only [List.mem_cons, List.not_mem_nil, or_false] at hy
    rcases hy with rfl | rfl
    · rfl
    · exact iS_f T.okf
  have X1 : K.In h1 := X.keeps k
  have G1 := G.keeps k
  have hx1 := k _ _ hx
  obtain ⟨cd, hc, hd'⟩ := any_some T.hd
  obtain ⟨oD, hD1, hD2⟩ : ∃ oD, h1.get? C = some oD ∧ oD.data = .cls cd := by
    unfold clsIn at hc
    split at hc
    · rename_i c1 d1 cd' sl ho
      cases hc
      exact ⟨_, X1 _ _ ho, rfl⟩
    · cases hc
  obtain ⟨mb, b1, b2⟩ := G1.b
  have I1 : InstAt h1 x (HandSPX.excO C t0) C none := ⟨hx1, rfl, rfl, trivial⟩
  have hxC : x ≠ C := ks_ne X1 I1 hc
  refine ks_wpAt_execs_cons (ks_wpAt_Expr_any (ks_wpAt_MethodCall (ks_wpAt_super_base (iS_sup T.okf) (iS_cls T.okf) rfl rfl (X1 _ _ ho) rfl rfl rfl (X1 _ _ hcode) rfl hvs hfile T.top ?_) (call_form hline)))
  refine ks_loadName_global rfl (iS_sup T.okf) (loadGlobal_builtin G1.g T.sup b1 ((b2 _ (by decide +kernel)).trans PyProof.Rows.Boot.super) ⟨rfl, ?_⟩)
  refine wpAny_loadName_free rfl (iS_cls T.okf) rfl ⟨_, X1 _ _ hcell, rfl⟩ ?_
  refine wpAny_loadName_local rfl rfl hns ls ?_
  refine ks_wpAny_isType_cls hD1 hD2 ⟨rfl, ?_⟩
  refine ks_wpAny_call_super hD1 hD2 hx1 rfl (fun c e => nomatch e) (looks_mroIn X1 T.mr) (fun h2 e2 k2 => ?_)
  have X2 : K.In h2 := X1.keeps k2
  have hx2 := k2 _ _ hx1
  have I2 : InstAt h2 x (HandSPX.excO C t0) C none := ⟨hx2, rfl, rfl, trivial⟩
  have hm : alongIn K "__init__" ((cd.mro.dropWhile (· != .ref C)).drop 1) = some (some (.builtin "Exception.__init__")) := by
    have := T.ini
    unfold ks_superIn at this
    rw [hc] at this
    exact this
  refine ESX.getMethod_super e2 (looks_opaque X2 T.any) (l₀ := cd.mro) ((looks_clsIn X2 hc).andThen .now) rfl X2 hm hxC (by decide +kernel) (I2.type.andThen (looks_subIn X2 T.sE)) ?_
  have k3 : ∀ b o, h2.get? b = some o → (h2.push (ESX.bw x)).get? b = some o := fun b o e => Heap.get?_push_of_some _ e
  have hns3 := hns.keeps fun b o e => k3 b o (k2 b o e)
  refine ESX.callWith_bound (x := x) (Calls.spliced_cons (wpAny_Name (wpAny_loadName_local rfl (iS_f T.okf) hns3 lf (spliced_nil ?_)) T.okf.dbg)) rfl rfl
  refine ⟨Heap.get?_push_at rfl rfl, ?_⟩
  obtain ⟨nm, N', qn, bs, bm, hdct, sn, sub, ab, col, dd, k0, k1, k2', k3', k5, hC, hT⟩ := excInit_of (X2.keeps k3) T.q1
  refine ESX.call_bw hC (k3 _ _ hx2) (Heap.get?_push_at rfl rfl) (by rw [sizeLine_eq]; exact (by decide : 1 ≤ 16777216)) fun h4 t1 k4 hx4 => ?_
  have X4 : K.In h4 := fun a o e => k4 a o (fun z => by rw [z, hnx] at e; cases e) ((X2.keeps k3) a o e)
  have xL : s.heap.objs.size ≠ x := Nat.ne_of_gt (Heap.lt_size hx)
  obtain ⟨oL, es, ep, hL, rL⟩ := hns3
  have hns4 : h4.Ns s.heap.objs.size _ := ⟨oL, es, ep, k4 _ _ xL hL, rL⟩
  refine ks_wpAt_execs_cons (ks_wpAt_Assign_Attr (wpAt_of_wpAny (wpAny_Name (wpAny_loadName_local rfl (iS_f T.okf) hns4 lf ?_) T.okf.dbg)))
  refine wpAny_Name (wpAny_loadName_local rfl rfl hns4 ls ?_) (by decide)
  refine set_plain X4 (ox := HandSPX.excO C t1) (od := none) ⟨hx4, rfl, rfl, trivial⟩ T.sa ?_
  refine err_set T X4 hx4 fun h5 tk5 dx k5' dn dne hx5 hn5 => ?_
  refine wpAt_of_wpAny (wpAny_execs_nil (hq h5 tk5 dx t1 ⟨fun b o hb e => k5' b o hb (k4 b o hb (k3 b o (k2 b o (k b o e)))), hx5, ?_, dne, hn5⟩))
  refine Nat.le_trans ?_ dn
  exact Nat.le_of_lt (Heap.lt_size (k4 _ _ xL hL))
theorem err_made (T : ErrC P K mg c f C fI) {v : Value} (X : K.In s.heap) (G : GlobAt mg s.heap) (hlim : s.heap.NoLimit) (hroom : A.depth + 1 < recursionLimit)
    (hq : ∀ h' tk e d, OwnMade f s.heap h' e C d v → R (.ok (.ret (.ref e))) { s with heap := h', toks := tk }) :
    codeAny (model P w) A (.call (.ref C) ⟨[v], []⟩) R s := by
  obtain ⟨nm, N', qn, bs, bm, hdct, sn, sub, ab, col, dd, k0, k1, k2, k3, k5, hC, hT⟩ := excInit_of X T.q1
  obtain ⟨hp, g, dr, tk, os⟩ := s
  have k : ∀ b o, hp.get? b = some o → ((hp.push (kdv_tup [v])).push (HandSPX.excO C hp.objs.size)).get? b = some o := fun b o e => Heap.get?_push_of_some _ (Heap.get?_push_of_some _ e)
  have hget : ((hp.push (kdv_tup [v])).push (HandSPX.excO C hp.objs.size)).get? (hp.objs.size + 1) = some (HandSPX.excO C hp.objs.size) := by heap_get
  have hnx : K.lookup (hp.objs.size + 1) = none := by
    cases e : K.lookup (hp.objs.size + 1) with
    | none => rfl
    | some o =>
      have z : hp.get? (hp.objs.size + 1) = some o := X _ _ e
      exact absurd (Nat.lt_of_succ_lt (Heap.lt_size z)) (Nat.lt_irrefl _)
  refine HandSPX.call_own F.excBase_Exception hT hC (looks_findIn X T.iC) (fun self => bind_fn X self T.tC) (by rw [sizeLine_eq]; exact (by decide : 1 ≤ 16777216)) ?_
  refine err_init (s := ⟨(hp.push (kdv_tup [v])).push (HandSPX.excO C hp.objs.size), g, dr, tk, os⟩) T (X.keeps k) (G.keeps k) (hlim.keeps k) hget hnx hroom fun h' tk' dx t1 I => ?_
  have old : ∀ b o, hp.get? b = some o → h'.get? b = some o := fun b o e => I.keep b o (Nat.ne_of_lt (Nat.lt_succ_of_lt (Heap.lt_size e))) (k b o e)
  have z : hp.objs.size + 1 + 1 ≤ dx := by
    have q := I.dbig
    rw [show (⟨(hp.push (kdv_tup [v])).push (HandSPX.excO C hp.objs.size), g, dr, tk, os⟩ : Shared).heap = (hp.push (kdv_tup [v])).push (HandSPX.excO C hp.objs.size) from rfl, Heap.size_push, Heap.size_push] at q
    exact q
  exact ⟨rfl, hq h' tk' (hp.objs.size + 1) dx ⟨old, Nat.le_succ _, ⟨_, _, I.obj, rfl, rfl, rfl, rfl⟩, Nat.le_trans (Nat.le_trans (Nat.le_succ _) (Nat.le_succ _)) z, I.dne, I.ns⟩⟩
end
end FL

namespace FL
open PySem L2 PyProof.Rows PySem.Spec
/-! ### raise of an own error -/
def sRaise (c : Str) (m : EM) : SM := fun ρ => thenS (m ρ) ρ fun d μ => .exc c d ρ μ
section
variable {X : Cx} {W : WX} {c : Str} {fI : Addr} {k : Nat} {a : Expr} {m : EM} {p pos pos2 : Pos}
/-- c(e): the reading -/
def tMkE (C : Addr) (f : Str) (te : TE) : L2.St → Hp → XK → Prop := fun σ H Q => te σ H fun v H1 => ∀ d, H1 d = none → Q (.ref C) (some d) (L2.upd H1 d (.xd [(f, v)]))
theorem relO_one {f : Str} {v : V} {u : Value} (r : RelV v u) (g : Str) : RelO (List.lookup g [(f, v)]) (if g = f then some u else none) := by
  rw [List.lookup_cons]
  by_cases e : g = f
  · have q : (g == f) = true := by simpa using e
    rw [if_pos e, q]
    exact r
  · have q : (g == f) = false := by simpa using e
    rw [if_neg e, q]
    trivial
theorem globAt {pins : List (Addr × Obj)} {σ : L2.St} {H : Hp} {s : Shared} (I : Inv X pins σ H s) : GlobAt X.mg s.heap := by
  obtain ⟨mb, h1, h2⟩ := I.mod.blt
  exact ⟨I.mod.glob.keeps I.bk, mb, h1.keeps I.bk, h2⟩
theorem pmk_err {f : Str} {C : Addr} (T : ErrC X.prog X.K X.mg c f C fI) (hr : Room k X.A) (ha : PE X a (tE X.K W m)) (hg : Gl X c) (hdb : (c == ("__debug__" : Str)) = false := by decide)
    (he : starEach [a] X.env = (false, eval a X.env) :: starEach [] X.env := by rfl) (hpl : (backTo pos (starEach [] X.env)).any (·.1) = false := by rfl) : PMk X (.Call (.Name c p) [a] [] pos) (tMkE C f (tE X.K W m)) := by
  intro pins s σ H Q I h
  refine wpAny_Call_Name_kw (ld_glob I hg T.gC ?_ hdb)
  refine PySem.W.callWith_K (h₀ := X.base) I.ok.mod.kin T.kC (thn ((pa_cons ha pa_nil he).run pos pins s σ H (fun vs H1 => ∃ v, vs = [v] ∧ ∀ d, H1 d = none → Q (.ref C) (some d) (L2.upd H1 d (.xd [(f, v)]))) I ?_) fun us s1 hh => ?_) he hpl
  · exact tG.imp h fun v H1 q => ⟨v, rfl, q⟩
  obtain ⟨vs, H1, I1, r1, v, ev, q1⟩ := hh
  subst ev
  refine ⟨I1.kIn, ?_⟩
  cases r1 with
  | cons rv rn =>
    rename_i v' us'
    cases rn
    have hlim := I1.nolimit
    have hgl := globAt I1
    obtain ⟨hp, g, dr, tk, os⟩ := s1
    show wpAny _ _ (call (.ref C) [v']) _ _ _
    refine wpAny_call (err_made T I1.kIn hgl hlim (by have := hr.dp; omega) fun h' tk' e d M => ?_)
    obtain ⟨oe, fv, hoe, hc, hd, hdat, h1⟩ := M.obj
    have hns := M.ns
    obtain ⟨G', g1, g2⟩ := restrict h' fun b => decide (b ≠ e)
    have gk : ∀ z, z ≠ e → G'.get? z = h'.get? z := fun z hz => g1 z (decide_eq_true hz)
    have ge : G'.get? e = none := g2 e (by simp)
    have old : ∀ z o, hp.get? z = some o → G'.get? z = some o := fun z o q => (gk z (Nat.ne_of_lt (Nat.lt_of_lt_of_le (Heap.lt_size q) M.new))).trans (M.keep z o q)
    have ob : ObjOk X.prog X.w (L2.upd H1 d (.xd [(f, v)])) G' d (.xd [(f, v)]) := ⟨_, hns.at (fun o q => (gk d M.dne).trans q), fun y => relO_one rv y⟩
    have J : Inv X pins σ (L2.upd H1 d (.xd [(f, v)])) ⟨G', g, dr, tk', os⟩ := I1.laid (t' := tk') old M.dbig ob
    refine ⟨e, oe, fv, ⟨G', g, dr, tk', os⟩, _, .ref C, some d, rfl, J, fun z o q => ?_, ge, hoe, ⟨hc, hd⟩, hdat, h1, ?_, rfl, I1.bare, raises_own T.exC T.tyC, q1 d (I1.hok.fresh M.dbig)⟩
    · by_cases hz : z = e
      · have q' : G'.get? z = some o := q
        rw [hz, ge] at q'; cases q'
      · exact (gk z hz).symm.trans q
    · rw [upd_ne (Ne.symm M.dne)]
      exact I1.hok.fresh M.new
theorem raise_read {C : Addr} {T : Ends} {σ : L2.St} {H : Hp} (hC : C = He.ga X.K c) (h : tS X.K W (sRaise c m) T σ H) : tMkE C (excField c) (tE X.K W m) σ H fun cls d H' => W cls d σ H' := by
  obtain ⟨S, ρ, r, rs, p⟩ := h
  refine ⟨S, ρ, r, rs, (thenS_read (R := Rep X.K) rs p).imp fun v H1 ⟨S1, d, r1, g1, rs1, hv, p1⟩ => fun q hq => ?_⟩
  rw [hC]
  exact p1 (S1.put q (.xd [(excField c, v)])) _ σ q v rfl (r1.put hq) (r1.goPut hq) (rs1.go (r1.goPut hq)) put_self (Rep.go hv (r1.goPut hq))
/-- raise c(e) -/
theorem fs_raise {C : Addr} (hc : X.calm = true) (tk : Takes X W) (T : ErrC X.prog X.K X.mg c (excField c) C fI) (hC : C = He.ga X.K c) (hr : Room k X.A) (ha : PE X a (tE X.K W m)) (hg : Gl X c) (hdb : (c == ("__debug__" : Str)) = false := by decide)
    (he : starEach [a] X.env = (false, eval a X.env) :: starEach [] X.env := by rfl) (hpl : (backTo pos (starEach [] X.env)).any (·.1) = false := by rfl) : PS X (.Raise (some (.Call (.Name c p) [a] [] pos)) none pos2) (tS X.K W (sRaise c m)) :=
  (ps_raise hc tk (pmk_err T hr ha hg hdb he hpl)).imp fun _ _ _ h => raise_read hC h
end
end FL

namespace FL
open PySem L2 PyProof.Rows PySem.Spec
/-! ### try with several clauses, each with or without a name -/
abbrev TSx := Addr → Value → Option Addr → TS
structure Cl where
  c : Value
  i : Option Nat
  ts : TSx
def endC (D : Ends) : Option Nat → Ends
  | none => D
  | some i => { nx := fun z H' => D.nx (z.set i none) H', rt := D.rt, bk := fun z H' => D.bk (z.set i none) H', ct := fun z H' => D.ct (z.set i none) H' }
def inC (σ : L2.St) (a : Addr) : Option Nat → L2.St
  | none => σ
  | some i => σ.set i (some (.ref a))
def wCls (K : PySem.W.Frag) (Wout : WX) (D : Ends) : List Cl → WX
  | [] => Wout
  | q :: r => fun cls d σ H => ∃ b, PySem.W.exmOne K cls q.c = some b ∧ (b = true → ∀ a, H a = none → q.ts a cls d (endC D q.i) (inC σ a q.i) H) ∧ (b = false → wCls K Wout D r cls d σ H)
inductive ClsOk (X : Cx) : List ExceptHandler → List Cl → Prop
  | nil : ClsOk X [] []
  | bare {x : Str} {c : Value} {ts : TSx} {b0 : Stmt} {su : List Stmt} {np ps : Pos} {hds : List ExceptHandler} {l : List Cl} (hc : Names X x c)
      (hsu : ∀ (a : Addr) (oe : Obj) (cls : Value) (d : Option Addr) (pn : List (Addr × Obj)), Zc cls d oe → (∃ vs, oe.data = .fields vs) → PSs (X.suite a ((a, oe) :: pn)) (b0 :: su) (ts a cls d)) (r : ClsOk X hds l) :
      ClsOk X (.ExceptHandler (some (.Name x np)) none (b0 :: su) ps :: hds) (⟨c, none, ts⟩ :: l)
  | as {x n : Str} {i : Nat} {c : Value} {ts : TSx} {b0 : Stmt} {su : List Stmt} {np ps : Pos} {hds : List ExceptHandler} {l : List Cl} (hc : Names X x c) (hN : X.N.Nodup) (hi : X.N[i]? = some n) (hln : X.env.kindOf n = some .local)
      (hsu : ∀ (a : Addr) (oe : Obj) (cls : Value) (d : Option Addr) (pn : List (Addr × Obj)), Zc cls d oe → (∃ vs, oe.data = .fields vs) → PSs (X.suite a ((a, oe) :: pn)) (b0 :: su) (ts a cls d)) (r : ClsOk X hds l) :
      ClsOk X (.ExceptHandler (some (.Name x np)) (some n) (b0 :: su) ps :: hds) (⟨c, some i, ts⟩ :: l)
section
variable {X : Cx} {body : List Stmt} {hd0 : ExceptHandler} {hds : List ExceptHandler} {l : List Cl} {pos : Pos} {tb : WX → TS} {Wout : WX}
theorem ps_tryC (hs : X.stack = X.env :: X.outer) (hf : X.env.frame = some X.env.locals) (tk : Takes X Wout)
    (hb : ∀ (W : WX) (pn : List (Addr × Obj)) (xe : Value → Shared → Prop), Takes (X.tr pn xe) W → PassesOwn (model X.prog X.w) X.A X.env xe → PSs (X.tr pn xe) body (tb W))
    (hh : ClsOk X (hd0 :: hds) l) : PS X (.Try body (hd0 :: hds) [] [] pos) (fun D σ H => tb (wCls X.K Wout D l) D σ H) := by
  refine ⟨fun pins s σ H D I h => wpAny_Try_except ?_⟩
  have ok := I.ok
  have hfr : X.A.frames = some (X.env :: X.outer) := ok.frames.trans (congrArg some hs)
  have body_run := (hb (wCls X.K Wout D l) (X.pn ++ pins) (fun e t1 => wpAny (model X.prog X.w) X.A (noteFrame e X.env) (fun _ t2 => wpAny (model X.prog X.w) X.A (setFlight e none) (fun _ t3 =>
    wpAny (model X.prog X.w) X.A (handleBy e X.env (hd0 :: hds)) (SP X pins D) X.xe t3) X.xe t2) X.xe t1) (fun u s' xx => ?_) PassesOwn.looking).run [] s σ H D (I.toTry _) h
  · refine wpAny_mono body_run (fun fl s1 hsp => ?_) (fun e s1 he => he)
    cases fl with
    | next => exact let ⟨z, G, J, q⟩ := hsp; wpAny_execs_nil ⟨z, G, J.ofTry ok, q⟩
    | brk => exact let ⟨z, G, J, q⟩ := hsp; ⟨z, G, J.ofTry ok, q⟩
    | cont => exact let ⟨z, G, J, q⟩ := hsp; ⟨z, G, J.ofTry ok, q⟩
    | ret u => exact let ⟨v, z, G, J, r, q⟩ := hsp; ⟨v, z, G, J.ofTry ok, r, q⟩
  · obtain ⟨a, B, sI, pins2, z, G, cls, d, rfl, J', nb, up, sky, na, os, ag, w⟩ := xx
    have J : Inv X pins z G sI := J'.ofTry ok
    rw [hs] at sky
    show wpAny (model X.prog X.w) X.A (noteFrame (.ref a) X.env) _ _ _
    refine Sky.land Zc.steady hfr hf sky fun h3 fl3 up3 => ?_
    have J3 : Inv X pins z G { s' with heap := h3 } := J.landed nb fl3.1 (up.trans up3) os ag
    obtain ⟨oe3, vs3, he3, hz3, hd3⟩ := fl3.there
    have nfr : a ∉ frs (X.env :: X.outer) := fun hm => by
      obtain ⟨_, o', e', hnf⟩ := fl3.2.2.1.mem hm
      rw [he3] at e'; cases e'
      exact hnf _ hd3
    have nL : a ≠ X.env.locals := fun y => nfr (List.mem_filterMap.mpr ⟨X.env, List.mem_cons_self, by rw [hf, y]⟩)
    have nF : a ∉ X.fs := fun hm => by
      obtain ⟨e, he, q⟩ := List.mem_filterMap.mp hm
      exact nfr (List.mem_filterMap.mpr ⟨e, .tail _ he, q⟩)
    have S3 := J3.suite he3 hd3 na nL nF
    have LT : PySem.W.Looks (model X.prog X.w) h3 (typeOf (.ref a)) cls := fun A Q E t k q => wpAny_typeOf_ref (k _ _ he3) (by rw [hz3.1]; exact q)
    have test : ∀ {x : Str} {c : Value} {np : Pos} {Q : Value → Shared → Prop} {E : Value → Shared → Prop}, Names X x c → Q c { s' with heap := h3 } → wpAny (model X.prog X.w) (X.A.mark (some (.ref a))) (eval (.Name x np) X.env) Q E { s' with heap := h3 } := fun {x c np Q E} hc q => by
      obtain ⟨hg, hdbg, hm | ⟨hm, hv, hnn⟩⟩ := hc
      · exact ld_glob (X := X.suite a ((a, oe3) :: (X.pn ++ pins))) S3 hg hm q hdbg
      · exact ld_blt (X := X.suite a ((a, oe3) :: (X.pn ++ pins))) S3 hg hm hv q hnn hdbg
    have go : ∀ {hds' : List ExceptHandler} {l' : List Cl}, ClsOk X hds' l' → wCls X.K Wout D l' cls d z G → wpAny (model X.prog X.w) X.A (handleBy (.ref a) X.env hds') (SP X pins D) X.xe { s' with heap := h3 } := by
      intro hds' l' hk
      induction hk with
      | nil =>
        intro w
        refine wpAny_handleBy_nil ?_
        obtain ⟨k1, k2, k3, oe, vs, T, oT, ts', he, hz, hd, h1, hr⟩ := id fl3
        unfold PySem.passOn
        refine wpAny_bind (wpAny_field he hd h1 ?_)
        rw [if_neg (show ¬ ((Value.ref T == Value.none) = true) from by simp)]
        have fin : wpAny (model X.prog X.w) X.A (setFlight (.ref a) X.env.frame) (fun _ t4 => wpAny (model X.prog X.w) X.A (throw (.ref a) : Sem Flow) (SP X pins D) X.xe t4) X.xe { s' with heap := h3 } := by
          rw [hf]
          exact HandSPX.setFlight_upZ fl3 fun h4 hh4 up4 => wpAny_throw (tk _ _ ⟨a, B, sI, pins, z, G, cls, d, rfl, J, nb, (up.trans up3).trans up4, .inr (.inr (by rw [hs]; exact hh4)), na, os, ag, w⟩)
        first
          | exact wpAny_bind (wpAny_pure (wpAny_bind fin))
          | exact wpAny_bind fin
      | @bare x c ts b0 su np ps hds2 l2 hc hsu r ih =>
        rintro ⟨b, hb1, hyes, hno⟩
        refine wpAny_handleBy_cons (codeAny_handlers_test (test hc ((PySem.W.exm_one (M := model X.prog X.w) J3.kIn LT hb1).here ?_))) (by intro q; cases q)
        cases b with
        | false => exact ih (hno rfl)
        | true =>
          refine codeAny_handlers_suite (HandSPX.lands_againZ fl3 fun h4 fl4 up4 => ?_)
          have J4 : Inv X pins z G { s' with heap := h4 } := J.landed nb fl4.1 ((up.trans up3).trans up4) os ag
          obtain ⟨oe4, vs4, he4, hz4, hd4⟩ := fl4.there
          refine wpAny_mono ((hsu a oe4 cls d (X.pn ++ pins) hz4 ⟨_, hd4⟩).run [] _ _ G _ (J4.suite he4 hd4 na nL nF) (hyes rfl a na)) (fun fl s6 hsp => ?_) (fun _ _ y => False.elim y)
          cases fl with
          | next => exact let ⟨y, G6, S6, q6⟩ := hsp; ⟨y, G6, S6.unsuite ok, q6⟩
          | brk => exact let ⟨y, G6, S6, q6⟩ := hsp; ⟨y, G6, S6.unsuite ok, q6⟩
          | cont => exact let ⟨y, G6, S6, q6⟩ := hsp; ⟨y, G6, S6.unsuite ok, q6⟩
          | ret u => exact let ⟨v6, y, G6, S6, r6, q6⟩ := hsp; ⟨v6, y, G6, S6.unsuite ok, r6, q6⟩
      | @as x n i c ts b0 su np ps hds2 l2 hc hN hi hln hsu r ih =>
        rintro ⟨b, hb1, hyes, hno⟩
        refine wpAny_handleBy_cons (codeAny_handlers_test (test hc ((PySem.W.exm_one (M := model X.prog X.w) J3.kIn LT hb1).here ?_))) (by intro q; cases q)
        cases b with
        | false => exact ih (hno rfl)
        | true =>
          refine codeAny_handlers_suite_as (HandSPX.lands_againZ fl3 fun h4 fl4 up4 => ?_)
          have J4 : Inv X pins z G { s' with heap := h4 } := J.landed nb fl4.1 ((up.trans up3).trans up4) os ag
          obtain ⟨oe4, vs4, he4, hz4, hd4⟩ := fl4.there
          refine store_ok (X := X.suite a ((a, oe4) :: (X.pn ++ pins))) (v := .ref a) (J4.suite he4 hd4 na nL nF) hN hi (.inl hln) rfl (fun s5 S5 => ?_) (.inr hln)
          refine wpAny_mono ((hsu a oe4 cls d (X.pn ++ pins) hz4 ⟨_, hd4⟩).run [] s5 _ G _ S5 (hyes rfl a na)) (fun fl s6 hsp => ?_) (fun _ _ y => False.elim y)
          have leave : ∀ {y : L2.St} {G6 : Hp} {Q : Shared → Prop}, Inv (X.suite a ((a, oe4) :: (X.pn ++ pins))) [] y G6 s6 → (∀ s7, Inv X pins (y.set i none) G6 s7 → Q s7) →
              wpAny (model X.prog X.w) X.A (do bindName X.env n .none; unbindBehindTheSuite X.env n ps) (fun _ s7 => Q s7) X.xe s6 := fun S6 hq => gone_ok (S6.unsuite ok) hN hi hln hq
          cases fl with
          | next => exact let ⟨y, G6, S6, q6⟩ := hsp; leave S6 fun s7 J7 => ⟨_, _, J7, q6⟩
          | brk => exact let ⟨y, G6, S6, q6⟩ := hsp; leave S6 fun s7 J7 => ⟨_, _, J7, q6⟩
          | cont => exact let ⟨y, G6, S6, q6⟩ := hsp; leave S6 fun s7 J7 => ⟨_, _, J7, q6⟩
          | ret u => exact let ⟨v6, y, G6, S6, r6, q6⟩ := hsp; leave S6 fun s7 J7 => ⟨_, _, _, J7, r6, q6⟩
    exact go hh w
end
end FL

namespace FL
open PySem L2 PyProof.Rows PySem.Spec
/-! ### try, by data -/
structure ClD where
  c : Str
  i : Option Nat
  sd : D → SM
def unsetO (ρ : Env) : Option Nat → Env
  | none => ρ
  | some i => ρ.set i none
def endD (i : Option Nat) : SRes → SRes
  | .ok (.next ρ) μ => .ok (.next (unsetO ρ i)) μ
  | .ok (.brk ρ) μ => .ok (.brk (unsetO ρ i)) μ
  | .ok (.cont ρ) μ => .ok (.cont (unsetO ρ i)) μ
  | .ok (.ret d) μ => .ok (.ret d) μ
  | _ => .bad
def runC (c : Str) (d : D) : List ClD → SM
  | [], ρ, μ => .exc c d ρ μ
  | q :: r, ρ, μ => if c = q.c then endD q.i (q.sd d (unsetO ρ q.i) μ) else runC c d r ρ μ
def sTry (known : List Str) (b : SM) (cl : List ClD) : SM := fun ρ μ => match b ρ μ with
  | .exc c d ρ' μ' => if c ∈ known then runC c d cl ρ' μ' else .bad
  | r => r
/-- what a suite does, told of its reading -/
def SuOk (K : PySem.W.Frag) (c : Str) (i : Option Nat) (ts : TSx) (sd : D → SM) : Prop := ∀ (a dd : Addr) (T : Ends) (σ : L2.St) (H : Hp) (S : S3) (ρ : Env) (d : D) (v : V), Rel K S H → RepS K S σ ρ → (∀ j, i = some j → j < σ.length → σ[j]? = some (some (.ref a))) →
  S.G dd = some (.xd [(excField c, v)]) → Rep K S v d → PostS K S H WF T (sd d ρ S.μ) → ts a (.ref (He.ga K c)) (some dd) T σ H
theorem RepS.half {K : PySem.W.Frag} {S : S3} {σ : L2.St} {ρ : Env} {i : Nat} {v : Option V} (h : RepS K S σ ρ) : RepS K S (σ.set i v) (ρ.set i none) := by
  refine ⟨by simp [h.1], fun j e q => ?_⟩
  by_cases hj : i = j
  · subst hj
    by_cases hl : i < ρ.length
    · rw [List.getElem?_set_self hl] at q; cases q
    · rw [List.getElem?_eq_none (by simpa using hl)] at q; cases q
  · rw [List.getElem?_set_ne hj] at q
    obtain ⟨v', h1, h2⟩ := h.2 j e q
    exact ⟨v', by rw [List.getElem?_set_ne hj]; exact h1, h2⟩
theorem PostS.ends {K : PySem.W.Frag} {S : S3} {H : Hp} {W : WX} {T : Ends} {i : Option Nat} {r : SRes} (p : PostS K S H W T (endD i r)) : PostS K S H WF (endC T i) r := by
  have un : ∀ {S' : S3} {z : L2.St} {ρ' : Env} {j : Nat}, RepS K S' z ρ' → RepS K S' (z.set j none) (ρ'.set j none) := fun h => h.half
  cases r with
  | ok o μ =>
    cases o with
    | next ρ => cases i with
      | none => exact p
      | some j => exact fun S' H' z e r g rs => p S' H' (z.set j none) e r g (un rs)
    | brk ρ => cases i with
      | none => exact p
      | some j => exact fun S' H' z e r g rs => p S' H' (z.set j none) e r g (un rs)
    | cont ρ => cases i with
      | none => exact p
      | some j => exact fun S' H' z e r g rs => p S' H' (z.set j none) e r g (un rs)
    | ret d => cases i <;> exact p
  | exc c d ρ μ => exact p.elim
  | bad => exact p.elim
def clOf (K : PySem.W.Frag) (q : ClD) (ts : TSx) : Cl := ⟨.ref (He.ga K q.c), q.i, ts⟩
theorem wCls_of {K : PySem.W.Frag} {Wout : WX} {T : Ends} {c : Str} {d : D} {S : S3} {H : Hp} : ∀ (cl : List (ClD × TSx)) (ρ : Env) (μ : Store), (∀ q ∈ cl, PySem.W.exmOne K (.ref (He.ga K c)) (.ref (He.ga K q.1.c)) = some (decide (c = q.1.c)) ∧ SuOk K q.1.c q.1.i q.2 q.1.sd) →
    PostS K S H Wout T (runC c d (cl.map (·.1)) ρ μ) → ∀ S' H' σ' dd v, S'.μ = μ → Rel K S' H' → Go S H S' H' → RepS K S' σ' ρ → S'.G dd = some (.xd [(excField c, v)]) → Rep K S' v d → wCls K Wout T (cl.map fun q => clOf K q.1 q.2) (.ref (He.ga K c)) (some dd) σ' H'
  | [], ρ, μ, _, p => fun S' H' σ' dd v e r g rs hx hv => p S' H' σ' dd v e r g rs hx hv
  | q :: cl, ρ, μ, hq, p => fun S' H' σ' dd v e r g rs hx hv => by
    obtain ⟨hx1, hsu⟩ := hq q List.mem_cons_self
    refine ⟨_, hx1, fun hb a ha => ?_, fun hb => ?_⟩
    · have ec : c = q.1.c := of_decide_eq_true hb
      have p' : PostS K S H Wout T (endD q.1.i (q.1.sd d (unsetO ρ q.1.i) μ)) := by
        have z := p
        rw [List.map_cons] at z
        unfold runC at z
        rw [if_pos ec] at z
        exact z
      have p2 := (PostS.go g p').ends
      rw [← e] at p2
      rw [ec]
      refine hsu a dd _ _ H' S' (unsetO ρ q.1.i) d v r ?_ ?_ (by rw [← ec]; exact hx) hv p2
      · show RepS K S' (inC σ' a q.1.i) (unsetO ρ q.1.i)
        cases q.1.i with
        | none => exact rs
        | some j => exact rs.half
      · intro j ej hl
        show (inC σ' a q.1.i)[j]? = _
        have hl' : j < (inC σ' a q.1.i).length := hl
        rw [ej] at hl' ⊢
        have : j < σ'.length := by simpa [inC] using hl'
        exact List.getElem?_set_self this
    · have ec : ¬ c = q.1.c := of_decide_eq_false hb
      have p' : PostS K S H Wout T (runC c d (cl.map (·.1)) ρ μ) := by
        have z := p
        rw [List.map_cons] at z
        unfold runC at z
        rw [if_neg ec] at z
        exact z
      exact wCls_of cl ρ μ (fun z hz => hq z (.tail _ hz)) p' S' H' σ' dd v e r g rs hx hv
section
variable {X : Cx} {W : WX} {body : List Stmt} {hd0 : ExceptHandler} {hds : List ExceptHandler} {pos : Pos} {b : SM}
theorem fs_try (known : List Str) (cl : List (ClD × TSx)) (hs : X.stack = X.env :: X.outer) (hf : X.env.frame = some X.env.locals) (tk : Takes X W)
    (hb : ∀ (W : WX) (pn : List (Addr × Obj)) (xe : Value → Shared → Prop), Takes (X.tr pn xe) W → PassesOwn (model X.prog X.w) X.A X.env xe → PSs (X.tr pn xe) body (tS X.K W b))
    (hh : ClsOk X (hd0 :: hds) (cl.map fun q => clOf X.K q.1 q.2)) (hq : ∀ c ∈ known, ∀ q ∈ cl, PySem.W.exmOne X.K (.ref (He.ga X.K c)) (.ref (He.ga X.K q.1.c)) = some (decide (c = q.1.c)) ∧ SuOk X.K q.1.c q.1.i q.2 q.1.sd) :
    PS X (.Try body (hd0 :: hds) [] [] pos) (tS X.K W (sTry known b (cl.map (·.1)))) := by
  refine (ps_tryC (tb := fun W => tS X.K W b) hs hf tk hb hh).imp fun T σ H ⟨S, ρ, r, rs, p⟩ => ⟨S, ρ, r, rs, ?_⟩
  unfold sTry at p
  revert p
  cases b ρ S.μ with
  | ok o μ => cases o <;> exact fun p => p
  | bad => exact fun p => p
  | exc c d ρ' μ' =>
    intro p
    simp only at p
    split at p
    · rename_i hk
      exact wCls_of cl ρ' μ' (hq c hk) p
    · exact p.elim
end
/-! ### the suites: what they hand back -/
section
variable {X : Cx} {W : WX} {pos : Pos}
/-- e.f in a suite: its reading, by data -/
def tXF (a : Addr) (cls : Value) (d : Option Addr) (C : Addr) (f : Str) (i : Nat) : TE := tXf a cls d C f (tVar i)
theorem xf_read {K : PySem.W.Frag} {c : Str} {i : Nat} {a dd : Addr} {σ : L2.St} {H : Hp} {S : S3} {v : V} {Q : VK} (r : Rel K S H) (ha : σ[i]? = some (some (.ref a))) (hx : S.G dd = some (.xd [(excField c, v)])) (q : Q v H) :
    tXF a (.ref (He.ga K c)) (some dd) (He.ga K c) (excField c) i σ H Q := ⟨.ref a, ha, rfl, rfl, dd, _, v, rfl, r.gh _ _ hx, by simp [List.lookup_cons], q⟩
end
end FL

namespace FL
open PySem L2 PyProof.Rows PySem.Spec
/-! ### repr -/
mutual
def toP : D → Option PyData
  | .non => some .none
  | .bl b => some (.bool b)
  | .int i => some (.int i)
  | .str x => some (.str x)
  | .tup ds => (toPs ds).map .tuple
  | .lst ds => (toPs ds).map .list
  | _ => none
def toPs : List D → Option (List PyData)
  | [] => some []
  | d :: ds => match toP d, toPs ds with
    | some p, some ps => some (p :: ps)
    | _, _ => none
end
def okP (p : PyData) : Bool := p.showable && !p.hasDict && decide (p.depth ≤ 50) && decide (p.shown.length ≤ sizeLine)
def dRepr (_ : Store) (d : D) : Option D := match d with
  | .dct [] => some (.str "{}")
  | d => match toP d with
    | some p => if okP p = true then some (.str p.shown) else none
    | none => none
section
variable {X : Cx} {pins : List (Addr × Obj)} {σ : L2.St} {H : Hp} {s : Shared} {S : S3}
mutual
theorem reads_of (I : Inv X pins σ H s) (r : Rel X.K S H) : ∀ (d : D) {p : PyData} {v : V} {u : Value}, toP d = some p → Rep X.K S v d → RelV v u → ∃ as, Reads s.heap u p as
  | .non, p, v, u, e, h, ru => by
    cases e
    rw [show v = V.non from h] at ru
    rw [show u = Value.none from ru]
    exact ⟨_, .none⟩
  | .bl b, p, v, u, e, h, ru => by
    cases e
    rw [show v = V.bl b from h] at ru
    rw [show u = Value.bool b from ru]
    exact ⟨_, .bool b⟩
  | .int i, p, v, u, e, h, ru => by
    cases e
    rw [show v = V.int i from h] at ru
    obtain ⟨t, rfl⟩ := ru
    exact ⟨_, .int i t⟩
  | .str x, p, v, u, e, h, ru => by
    cases e
    rw [show v = V.str x from h] at ru
    obtain ⟨t, rfl⟩ := ru
    exact ⟨_, .str x t⟩
  | .tup ds, p, v, u, e, h, ru => by
    unfold toP at e
    cases e1 : toPs ds with
    | none => rw [e1] at e; cases e
    | some ps =>
      rw [e1] at e
      cases e
      obtain ⟨a, xs, rfl, h1, h2⟩ := h
      rw [show u = Value.ref a from ru]
      obtain ⟨its, rv, o, ho, hc, n, hd⟩ := isT_of I (r.gh _ _ h1)
      obtain ⟨as, ra⟩ := readsAll_of I r ds e1 h2 rv
      exact ⟨_, .tuple (vs := its.toArray) (n := n) ho hc hd (by simpa using ra)⟩
  | .lst ds, p, v, u, e, h, ru => by
    unfold toP at e
    cases e1 : toPs ds with
    | none => rw [e1] at e; cases e
    | some ps =>
      rw [e1] at e
      cases e
      obtain ⟨a, xs, rfl, h1, h2⟩ := h
      rw [show u = Value.ref a from ru]
      obtain ⟨its, rv, o, ho, hc, n, hd⟩ := isL_of I (r.gh _ _ h1)
      obtain ⟨as, ra⟩ := readsAll_of I r ds e1 h2 rv
      exact ⟨_, .list (vs := its.toArray) (n := n) ho hc hd (by simpa using ra)⟩
  | .dct _, p, v, u, e, h, ru => by cases e
  | .ins _ _, p, v, u, e, h, ru => by cases e
  | .obj _, p, v, u, e, h, ru => by cases e
  | .scr _, p, v, u, e, h, ru => by cases e
theorem readsAll_of (I : Inv X pins σ H s) (r : Rel X.K S H) : ∀ (ds : List D) {ps : List PyData} {vs : List V} {us : List Value}, toPs ds = some ps → RepL X.K S vs ds → Vals vs us → ∃ as, ReadsAll s.heap us ps as
  | [], ps, vs, us, e, h, rv => by
    cases e
    rw [show vs = [] from h] at rv
    cases rv
    exact ⟨_, .nil⟩
  | d :: ds, ps, vs, us, e, h, rv => by
    obtain ⟨x, xs, rfl, h1, h2⟩ := h
    cases rv with
    | cons r1 r2 =>
      unfold toPs at e
      cases e1 : toP d with
      | none => rw [e1] at e; cases e
      | some p =>
        cases e2 : toPs ds with
        | none => rw [e1, e2] at e; cases e
        | some ps =>
          rw [e1, e2] at e
          cases e
          obtain ⟨as, ra⟩ := reads_of I r d e1 h1 r1
          obtain ⟨bs, rb⟩ := readsAll_of I r ds e2 h2 r2
          exact ⟨_, .cons ra rb⟩
end
theorem cr_repr (hg : X.A.guards = some []) (hu : X.A.units + 64 < cLine) : CallR X (.builtin "repr") (rND X.K (on1 dRepr)) := by
  intro pins s σ H xs us Q I rv h
  obtain ⟨S, ds, d, r, hx, e0, p⟩ := h
  obtain ⟨z, rfl, e⟩ := on1_some e0
  clear e0
  obtain ⟨x, rfl, hz⟩ := repL1 hx
  cases rv with
  | cons ru rn =>
    cases rn
    rename_i u
    have rest : (match toP z with
      | some p => if okP p = true then some (D.str p.shown) else none
      | none => none) = some d → wpAny (model X.prog X.w) X.A (call (.builtin "repr") [u]) (EP X pins σ Q) X.xe s := fun e => by
      cases e1 : toP z with
      | none => rw [e1] at e; cases e
      | some q =>
        rw [e1] at e
        simp only at e
        split at e
        · rename_i hok
          cases e
          unfold okP at hok
          simp only [Bool.and_eq_true, decide_eq_true_eq, Bool.not_eq_true'] at hok
          obtain ⟨⟨⟨k1, k2⟩, k3⟩, k4⟩ := hok
          have fin : ∀ h' tk t, (∀ b o, s.heap.get? b = some o → h'.get? b = some o) → EP X pins σ Q (.str q.shown t) { s with heap := h', toks := tk } := fun h' tk t k => ⟨.str q.shown, H, I.kept k, ⟨t, rfl⟩, p.now r rfl⟩
          obtain ⟨as, hr⟩ := reads_of I r z e1 hz ru
          cases hr with
          | none => exact PySem.P.repr_of_none (fin s.heap _ _ fun _ _ e => e)
          | bool b => exact PySem.P.repr_of_bool (fin s.heap _ _ fun _ _ e => e)
          | int i t => exact PySem.P.repr_of_int (by simpa [PyData.showable] using k1) (fin s.heap _ _ fun _ _ e => e)
          | str y t => exact PySem.P.repr_of_str (fin s.heap _ _ fun _ _ e => e) (by simpa [PyData.shown] using k4)
          | list h1 h2 h3 h4 => exact repr_of_reads' (.list h1 h2 h3 h4) k1 (PyData.noDict_hsm k2) hg (by omega) (fun _ _ e => e) (fun h' u tk hk => fin h' tk u hk) k4
          | tuple h1 h2 h3 h4 => exact repr_of_reads' (.tuple h1 h2 h3 h4) k1 (PyData.noDict_hsm k2) hg (by omega) (fun _ _ e => e) (fun h' u tk hk => fin h' tk u hk) k4
          | dict h1 h2 h3 h4 h5 => simp [PyData.hasDict] at k2
        · cases e
    cases z with
    | dct kvs =>
      cases kvs with
      | nil =>
        cases e
        obtain ⟨a, ps, rfl, h1, h2⟩ := hz
        rw [show u = Value.ref a from ru]
        rw [show ps = [] from h2] at h1
        have ok : ObjOk X.prog X.w H s.heap a (.dK []) := I.hok a _ (r.gh _ _ h1)
        obtain ⟨_, hsm, vs, kv, o, es, ep, ho, hc, hd, _, pr, _⟩ := ok
        cases kv
        have he : es.toList = [] := by
          cases el : es.toList with
          | nil => rfl
          | cons y ys => rw [el] at pr; cases pr
        have hr : Reads s.heap (.ref a) (.dict []) (a :: [] ++ []) := .dict ho hc.1 hd (by rw [he]; exact .nil) (by rw [he]; exact .nil)
        refine repr_of_reads' hr rfl (fun _ hm => ?_) hg ?_ (fun _ _ e => e) (fun h' t tk hk => ⟨.str "{}", H, I.kept hk, ⟨t, rfl⟩, p.now r rfl⟩) (by decide +kernel)
        · have : sysModules = a := by simpa using hm
          rw [this] at hsm
          simp at hsm
        · have : (PyData.dict []).depth ≤ 10 := by decide
          omega
      | cons q qs => cases e
    | _ => exact rest e
end
end FL

namespace FL
open PySem L2 PyProof.Rows PySem.Spec
/-! ### isinstance -/
/-- a datum's kind: a built-in type, an own class -/
inductive Kd where
  | ty (n : String) | own (c : Str)
deriving DecidableEq
def kdC : Cell → Kd
  | .lst _ => .ty "list"
  | .dct _ => .ty "dict"
  | .ins c _ => .own c
def kdD (μ : Store) : D → Option Kd
  | .non => some (.ty "NoneType")
  | .bl _ => some (.ty "bool")
  | .int _ => some (.ty "int")
  | .str _ => some (.ty "str")
  | .tup _ => some (.ty "tuple")
  | .lst _ => some (.ty "list")
  | .scr _ => some (.ty "list")
  | .dct _ => some (.ty "dict")
  | .ins c _ => some (.own c)
  | .obj n => (μ[n]?).map kdC
def bTys : List String := ["NoneType", "bool", "int", "str", "tuple", "list", "dict"]
/-- what the written part says of a class of objects -/
structure InsT (K : PySem.W.Frag) (c : Str) : Prop where
  cl : Cls K (He.ga K c)
  ha : PySem.W.findIn K (.ref (He.ga K c)) "__class__" = some (some (.builtin "object.__class__"))
  hn : PySem.W.specialIn K (.builtin "object.__class__") "__get__" = some (some (.builtin "getset_descriptor.__get__"))
  htk : PySem.W.takesIn K (.builtin "object.__class__") = some true
  hm : PySem.W.mroIn K (He.ga K c) (.type "object") = some true
  kb : ∀ T ∈ bTys, PySem.W.kitOne K (.ref (He.ga K c)) (.type T) = some false
  bk : ∀ T ∈ bTys, PySem.W.kitOne K (.type T) (.ref (He.ga K c)) = some false
def Kd.v (K : PySem.W.Frag) : Kd → Value
  | .ty n => .type n
  | .own c => .ref (He.ga K c)
def Kd.okB (cls : List Str) : Kd → Bool
  | .ty n => bTys.contains n
  | .own c => cls.contains c
def subKB (a b : Kd) : Bool := match a, b with
  | .ty x, .ty y => x == y || (x == "bool" && y == "int")
  | .own x, .own y => x == y
  | _, _ => false
theorem kitB_all : ∀ a ∈ bTys, ∀ b ∈ bTys, kitB a b = some (a == b || (a == "bool" && b == "int")) := by decide +kernel
/-- all of a program's classes -/
structure ClsT (K : PySem.W.Frag) (cls : List Str) : Prop where
  one : ∀ c ∈ cls, InsT K c
  two : ∀ c ∈ cls, ∀ c' ∈ cls, PySem.W.kitOne K (.ref (He.ga K c)) (.ref (He.ga K c')) = some (c == c')
theorem kit_all {K : PySem.W.Frag} {cls : List Str} (C : ClsT K cls) {a b : Kd} (ha : a.okB cls = true) (hb : b.okB cls = true) : PySem.W.kitOne K (a.v K) (b.v K) = some (subKB a b) := by
  cases a with
  | ty x =>
    have hx : x ∈ bTys := by simpa [Kd.okB] using ha
    cases b with
    | ty y => exact kit_ty (kitB_all x hx y (by simpa [Kd.okB] using hb))
    | own y => exact (C.one y (by simpa [Kd.okB] using hb)).bk x hx
  | own x =>
    have hx : x ∈ cls := by simpa [Kd.okB] using ha
    cases b with
    | ty y => exact (C.one x hx).kb y (by simpa [Kd.okB] using hb)
    | own y => exact C.two x hx y (by simpa [Kd.okB] using hb)
theorem tyX_of {K : PySem.W.Frag} {cls : List Str} (C : ClsT K cls) {S : S3} {H : Hp} (r : Rel K S H) {v : V} {d : D} {k : Kd} (h : Rep K S v d) (e : kdD S.μ d = some k) (ok : k.okB cls = true) : TyX K H v (k.v K) := by
  have ins : ∀ {a : Addr} {c : Str} {dx : Addr} {fs : List (Str × V)}, H a = some (.ins (He.ga K c) dx fs) → (Kd.own c).okB cls = true → TyX K H (.ref a) (.ref (He.ga K c)) := fun {a c dx fs} ea hk => by
    have I := C.one c (by simpa [Kd.okB] using hk)
    exact .base (.ins ea I.cl I.ha I.hn I.htk I.hm)
  cases d with
  | non => cases e; rw [show v = V.non from h]; exact .base .non
  | bl b => cases e; rw [show v = V.bl b from h]; exact .base (.bl b)
  | int i => cases e; rw [show v = V.int i from h]; exact .base (.int i)
  | str x => cases e; rw [show v = V.str x from h]; exact .base (.str x)
  | tup ds => cases e; obtain ⟨a, xs, rfl, h1, h2⟩ := h; exact .base (.tup (r.gh _ _ h1))
  | lst ds => cases e; obtain ⟨a, xs, rfl, h1, h2⟩ := h; exact .base (.lst (r.gh _ _ h1))
  | scr ns => cases e; obtain ⟨a, o, rfl, h1⟩ := h; exact .base (.frz (r.gh _ _ h1))
  | dct kvs => cases e; obtain ⟨a, xs, rfl, h1, h2⟩ := h; exact .base (.dK (r.gh _ _ h1))
  | ins c fs => cases e; obtain ⟨a, dx, ps, rfl, h1, h2⟩ := h; exact ins (r.gh _ _ h1) ok
  | obj n =>
    obtain ⟨hn, rfl⟩ := h
    have e : (S.μ[n]?).map kdC = some k := e
    cases q : S.μ[n]? with
    | none => rw [q] at e; cases e
    | some c =>
      rw [q] at e
      cases e
      obtain ⟨_, o, ho, hc⟩ := r.cell n c q
      cases c with
      | lst ds => cases o with
        | lst xs => exact .base (.lst ho)
        | _ => exact hc.elim
      | dct ds => cases o with
        | dK xs => exact .base (.dK ho)
        | _ => exact hc.elim
      | ins c fs => cases o with
        | ins C' dx xs =>
          rw [hc.1] at ho
          exact ins ho ok
        | _ => exact hc.elim
def mIs (cls : List Str) (t : Kd) (m : EM) : EM := fun ρ => (m ρ).bnd fun d μ => match kdD μ d with
  | some k => if (k.okB cls && t.okB cls) = true then .ok (.bl (subKB k t)) μ else .bad
  | none => .bad
section
variable {X : Cx} {W : WX} {x : Str} {p p2 pos : Pos} {a : Expr} {m : EM} {T : String} {cls : List Str}
theorem is_read {t : Kd} {cv : V} (C : ClsT X.K cls) (hc : ClsV cv (t.v X.K)) {σ : L2.St} {H : Hp} {Q : VK} (h : tE X.K W (mIs cls t m) σ H Q) : tCB (rIsi X.K) (tCons (tE X.K W m) (tCons (tC cv) tNil)) σ H Q := by
  obtain ⟨S, ρ, r, rs, p⟩ := h
  refine ⟨S, ρ, r, rs, p.bind.imp fun v H1 ⟨S1, d, r1, g1, hv, p1⟩ => ?_⟩
  cases e : kdD S1.μ d with
  | none => rw [e] at p1; exact p1.elim
  | some k =>
    rw [e] at p1
    simp only at p1
    split at p1
    · rename_i hk
      obtain ⟨k1, k2⟩ := Bool.and_eq_true_iff.mp hk
      exact ⟨v, cv, k.v X.K, t.v X.K, subKB k t, rfl, hc, tyX_of C r1 hv e k1, kit_all C k1 k2, p1 S1 H1 _ rfl r1 (Go.refl _ _) rfl⟩
    · exact p1.elim
/-- isinstance(e, T), T built in -/
theorem fe_isTy (C : ClsT X.K cls) (hg : Gl X "isinstance") (hm : X.mg "isinstance" = none) (hgT : Gl X x) (hmT : X.mg x = none) (hv : bootBuiltins x = some (.type T)) (ha : PE X a (tE X.K W m)) (hn : x ≠ "__name__" := by decide) (hdb : (x == ("__debug__" : Str)) = false := by decide)
    (he : starEach [a, .Name x p2] X.env = (false, eval a X.env) :: starEach [.Name x p2] X.env := by rfl) (hpl : (backTo pos (starEach [.Name x p2] X.env)).any (·.1) = false := by rfl) : PE X (.Call (.Name "isinstance" p) [a, .Name x p2] [] pos) (tE X.K W (mIs cls (.ty T) m)) :=
  (pe_callB call_isi hg hm boot_isinstance (pa_cons ha (pa_cons (pe_bltn (v := .ty T) hgT hmT hv rfl hn hdb) pa_nil) he) (by decide) (by decide) he hpl).imp fun _ _ _ h => is_read C (.ty T) h
/-- isinstance(e, C), C an own class -/
theorem fe_isCls (C : ClsT X.K cls) (hg : Gl X "isinstance") (hm : X.mg "isinstance" = none) (hgT : Gl X x) (hmT : X.mg x = some (.ref (He.ga X.K x))) (ha : PE X a (tE X.K W m)) (hdb : (x == ("__debug__" : Str)) = false := by decide)
    (he : starEach [a, .Name x p2] X.env = (false, eval a X.env) :: starEach [.Name x p2] X.env := by rfl) (hpl : (backTo pos (starEach [.Name x p2] X.env)).any (·.1) = false := by rfl) : PE X (.Call (.Name "isinstance" p) [a, .Name x p2] [] pos) (tE X.K W (mIs cls (.own x) m)) :=
  (pe_callB call_isi hg hm boot_isinstance (pa_cons ha (pa_cons (pe_glob (v := .ref (He.ga X.K x)) hgT hmT rfl hdb) pa_nil) he) (by decide) (by decide) he hpl).imp fun _ _ _ h => is_read C (.own _) h
end
end FL

namespace FL
open PySem L2 PyProof.Rows PySem.Spec
/-! ### methods of texts, one argument -/
def rMD (K : PySem.W.Frag) (f : Store → D → D → Option D) : V → List V → Hp → VK → Prop := fun x xs H Q => ∃ S dx dy d y, Rel K S H ∧ Rep K S x dx ∧ xs = [y] ∧ Rep K S y dy ∧ f S.μ dx dy = some d ∧ Pok K S H d S.μ Q
def mM1 (f : Store → D → D → Option D) (ma mb : EM) : EM := fun ρ => (ma ρ).bnd fun x μ => match asS x with
  | some _ => (mb ρ).bnd (fun y μ => match f μ x y with
    | some d => .ok d μ
    | none => .bad) μ
  | none => .bad
section
variable {X : Cx} {W : WX} {o e : Expr} {ma mb : EM} {name : Str} {apos pos : Pos} {id : String} {f : Store → D → D → Option D}
theorem fe_m1 (slot : Slot "str" name id) (ty : typeOf (.builtin id) = pure (.type "method_descriptor")) (rule : MtR X id (rMD X.K f)) (ho : PE X o (tE X.K W ma)) (he : PE X e (tE X.K W mb)) (hs : starEach [e] X.env = [(false, eval e X.env)] := by rfl)
    (hbase : attributeBase o name X.env (eval o X.env) = eval o X.env := by rfl) (hline : (apos.endLine == pos.line) = true := by rfl) : PE X (.Call (.Attribute o name apos) [e] [] pos) (tE X.K W (mM1 f ma mb)) :=
  (pe_m1 slot ty rule ho he hs hbase hline).imp fun σ H Q ⟨S, ρ, r, rs, p⟩ => ⟨S, ρ, r, rs, p.bind.imp fun v H1 ⟨S1, d, r1, g1, hv, p1⟩ => by
    cases e1 : asS d with
    | none => rw [e1] at p1; exact p1.elim
    | some z =>
      rw [e1] at p1
      have ed := asS_some e1
      refine ⟨⟨z, by rw [ed] at hv; exact hv⟩, S1, ρ, r1, rs.go g1, PostG.imp (PostG.bind (R' := Rep X.K) p1) fun v2 H2 ⟨S2, d2, r2, g2, hv2, p2⟩ => ?_⟩
      cases e2 : f S2.μ d d2 with
      | none => rw [e2] at p2; exact p2.elim
      | some d3 => rw [e2] at p2; exact ⟨S2, d, d2, d3, v2, r2, Rep.go hv g2, rfl, hv2, e2, p2⟩⟩
end
/-- a list or a tuple of texts -/
def strsOf (μ : Store) (d : D) : Option (List Str) := match d with
  | .tup ds => asStrs ds
  | d => match asLR μ d with
    | some ds => asStrs ds
    | none => none
def dJoin (μ : Store) (x y : D) : Option D := match asS x, strsOf μ y with
  | some a, some ys => if (ys.map (·.length)).sum + ys.length * a.length ≤ 16777216 then some (.str (Txt.join a ys)) else none
  | _, _ => none
def dSplit (_ : Store) (x y : D) : Option D := match asS x, asS y with
  | some a, some b => if (b.length == 0) = false ∧ a.length + 2 ≤ sizeLine then some (.lst ((Txt.split a b).map D.str)) else none
  | _, _ => none
def dPart (_ : Store) (x y : D) : Option D := match asS x, asS y with
  | some a, some b => if (b.length == 0) = false ∧ a.length ≤ sizeLine then some (.tup [.str (Txt.partition a b).1, .str (Txt.partition a b).2.1, .str (Txt.partition a b).2.2]) else none
  | _, _ => none
def dStr2 (g : Str → Str → D) (_ : Store) (x y : D) : Option D := match asS x, asS y with
  | some a, some b => some (g a b)
  | _, _ => none
def dStarts := dStr2 fun a b => .bl (Txt.startswith a b)
def dEnds := dStr2 fun a b => .bl (Txt.endswith a b)
def dFind := dStr2 fun a b => .int (Txt.find a b)
def dCountS := dStr2 fun a b => .int (Txt.count a b)
section
variable {X : Cx}
theorem strsOf_at {K : PySem.W.Frag} {S : S3} {H : Hp} (r : Rel K S H) {v : V} {d : D} {ys : List Str} (h : Rep K S v d) (e : strsOf S.μ d = some ys) : ∃ a, v = .ref a ∧ (SqL K H a (ys.map V.str) ∨ SqT K H a (ys.map V.str)) := by
  have lists : (match asLR S.μ d with
    | some ds => asStrs ds
    | none => none) = some ys → ∃ a, v = .ref a ∧ (SqL K H a (ys.map V.str) ∨ SqT K H a (ys.map V.str)) := fun e => by
    cases e1 : asLR S.μ d with
    | none => rw [e1] at e; cases e
    | some ds =>
      rw [e1] at e
      obtain ⟨l, xs, rfl, k1, k2⟩ := lstR_at r h e1
      rw [asStrs_some e] at k2
      rw [k2.strs] at k1
      exact ⟨l, rfl, .inl k1⟩
  cases d with
  | tup ds =>
    obtain ⟨l, xs, rfl, k1, k2⟩ := tup_at r h
    have e : asStrs ds = some ys := e
    rw [asStrs_some e] at k2
    rw [k2.strs] at k1
    exact ⟨l, rfl, .inr (sqT_of k1)⟩
  | _ => exact lists e
theorem md_join : MtR X "str.join" (rMD X.K dJoin) := by
  intro pins s σ H x xs v us Q I rx rxs h
  obtain ⟨S, dx, dy, d, y, r, hx, rfl, hy, e, p⟩ := h
  unfold dJoin at e
  cases e1 : asS dx with
  | none => rw [e1] at e; cases e
  | some a =>
    cases e2 : strsOf S.μ dy with
    | none => rw [e1, e2] at e; cases e
    | some ys =>
      rw [e1, e2] at e
      simp only at e
      split at e
      · rename_i hz
        cases e
        rw [asS_some e1] at hx
        obtain ⟨l, rfl, k⟩ := strsOf_at r hy e2
        exact mt_join pins s σ H x _ v us Q I rx rxs ⟨a, l, ys, hx, rfl, k, hz, p.now r rfl⟩
      · cases e
theorem md_split : MtR X "str.split" (rMD X.K dSplit) := by
  intro pins s σ H x xs v us Q I rx rxs h
  obtain ⟨S, dx, dy, d, y, r, hx, rfl, hy, e, p⟩ := h
  unfold dSplit at e
  cases e1 : asS dx with
  | none => rw [e1] at e; cases e
  | some a =>
    cases e2 : asS dy with
    | none => rw [e1, e2] at e; cases e
    | some b =>
      rw [e1, e2] at e
      simp only at e
      split at e
      · rename_i hz
        cases e
        rw [asS_some e1] at hx
        rw [asS_some e2] at hy
        rw [show y = V.str b from hy] at rxs
        exact mt_split pins s σ H x _ v us Q I rx rxs ⟨a, b, hx, rfl, hz.1, hz.2, fun q hq => p.lst r (RepL.mkStrs _) hq⟩
      · cases e
theorem md_partition : MtR X "str.partition" (rMD X.K dPart) := by
  intro pins s σ H x xs v us Q I rx rxs h
  obtain ⟨S, dx, dy, d, y, r, hx, rfl, hy, e, p⟩ := h
  unfold dPart at e
  cases e1 : asS dx with
  | none => rw [e1] at e; cases e
  | some a =>
    cases e2 : asS dy with
    | none => rw [e1, e2] at e; cases e
    | some b =>
      rw [e1, e2] at e
      simp only at e
      split at e
      · rename_i hz
        cases e
        rw [asS_some e1] at hx
        rw [asS_some e2] at hy
        rw [show y = V.str b from hy] at rxs
        exact mt_partition pins s σ H x _ v us Q I rx rxs ⟨a, b, hx, rfl, hz.1, hz.2, fun q hq => p.tup r (RepL.mkStrs [_, _, _]) hq⟩
      · cases e
theorem md_str2 {id : String} {g : Str → Str → D} {gv : Str → Str → V} (rule : MtR X id (fun x xs H Q => ∃ a b, x = .str a ∧ xs = [.str b] ∧ Q (gv a b) H)) (hg : ∀ S a b, Rep X.K S (gv a b) (g a b)) : MtR X id (rMD X.K (dStr2 g)) := by
  intro pins s σ H x xs v us Q I rx rxs h
  obtain ⟨S, dx, dy, d, y, r, hx, rfl, hy, e, p⟩ := h
  unfold dStr2 at e
  cases e1 : asS dx with
  | none => rw [e1] at e; cases e
  | some a =>
    cases e2 : asS dy with
    | none => rw [e1, e2] at e; cases e
    | some b =>
      rw [e1, e2] at e
      cases e
      rw [asS_some e1] at hx
      rw [asS_some e2] at hy
      rw [show y = V.str b from hy] at rxs
      exact rule pins s σ H x _ v us Q I rx rxs ⟨a, b, hx, rfl, p.now r (hg S a b)⟩
theorem md_starts : MtR X "str.startswith" (rMD X.K dStarts) := md_str2 mt_startswith fun _ _ _ => rfl
theorem md_ends : MtR X "str.endswith" (rMD X.K dEnds) := md_str2 mt_endswith fun _ _ _ => rfl
theorem md_find : MtR X "str.find" (rMD X.K dFind) := md_str2 mt_find fun _ _ _ => rfl
theorem md_count : MtR X "str.count" (rMD X.K dCountS) := md_str2 mt_count fun _ _ _ => rfl
end
/-! ### f'..' -/
def mFmt (m : EM) : EM := fun ρ => (m ρ).bnd fun d μ => match d with
  | .str y => if y.length ≤ sizeLine then .ok (.str y) μ else .bad
  | .int i => if i.natAbs.log2 < 1920 then .ok (.str (toString i)) μ else .bad
  | _ => .bad
def mJs : List EM → Str → Env → M Str
  | [], acc, _ => M.ret acc
  | m :: ms, acc, ρ => (m ρ).bnd fun d μ => match asS d with
    | some y => if (acc ++ y).length ≤ sizeLine then mJs ms (acc ++ y) ρ μ else .bad
    | none => .bad
def mJoined (ms : List EM) : EM := fun ρ => (mJs ms Str.empty ρ).bnd fun z => M.ret (.str z)
section
variable {X : Cx} {W : WX} {e : Expr} {m : EM} {pos : Pos}
theorem fe_fmt (he : PE X e (tE X.K W m)) : PE X (.FormattedValue e (-1) none pos) (tE X.K W (mFmt m)) :=
  (pe_fmt he).imp fun σ H Q ⟨S, ρ, r, rs, p⟩ => ⟨S, ρ, r, rs, p.bind.imp fun v H1 ⟨S1, d, r1, g1, hv, p1⟩ => by
    cases d with
    | str y =>
      simp only at p1
      split at p1
      · rename_i hz
        exact .inl ⟨y, hv, hz, p1 S1 H1 _ rfl r1 (Go.refl _ _) rfl⟩
      · exact p1.elim
    | int i =>
      simp only at p1
      split at p1
      · rename_i hz
        exact .inr ⟨i, hv, hz, p1 S1 H1 _ rfl r1 (Go.refl _ _) rfl⟩
      · exact p1.elim
    | _ => exact p1.elim⟩
theorem js_read {K : PySem.W.Frag} {σ : L2.St} {Q : Str → Hp → Prop} {ρ : Env} : ∀ (ms : List EM) {H : Hp} {S : S3} {acc : Str}, Rel K S H → RepS K S σ ρ →
    (match mJs ms acc ρ S.μ with
      | .ok z μ' => ∀ S' H', S'.μ = μ' → Rel K S' H' → Go S H S' H' → Q z H'
      | .exc c d μ' => PostX K S H c d μ' (fun c d H => W c d σ H)
      | .bad => False) → tJs (ms.map fun m => tE K W m) acc σ H Q
  | [], H, S, acc, r, rs, p => p S H rfl r (Go.refl _ _)
  | m :: ms, H, S, acc, r, rs, p => by
    refine ⟨S, ρ, r, rs, ?_⟩
    unfold mJs M.bnd at p
    simp only at p
    revert p
    cases m ρ S.μ with
    | bad => exact fun p => p
    | exc c d μ' => exact fun p => p
    | ok d μ' =>
      intro p S' H' v eμ r' g hv
      simp only at p
      cases e1 : asS d with
      | none => rw [e1] at p; exact p.elim
      | some y =>
        rw [e1] at p
        simp only at p
        by_cases hz : (acc ++ y).length ≤ sizeLine
        · rw [if_pos hz] at p
          rw [asS_some e1] at hv
          refine ⟨y, hv, hz, js_read ms r' (rs.go g) ?_⟩
          rw [eμ]
          revert p
          cases mJs ms (acc ++ y) ρ μ' with
          | ok z μ2 => exact fun p S2 H2 e2 r2 g2 => p S2 H2 e2 r2 (g.trans g2)
          | exc c d μ2 => exact fun p => PostX.go g p
          | bad => exact fun p => p
        · rw [if_neg hz] at p
          exact p.elim
theorem joined_read {K : PySem.W.Frag} {σ : L2.St} {H : Hp} {Q : VK} {ms : List EM} (h : tE K W (mJoined ms) σ H Q) : tJs (ms.map fun m => tE K W m) Str.empty σ H fun out H1 => Q (.str out) H1 := by
  obtain ⟨S, ρ, r, rs, p⟩ := h
  refine js_read ms r rs ?_
  unfold mJoined M.bnd at p
  revert p
  simp only
  cases mJs ms Str.empty ρ S.μ with
  | ok z μ' => exact fun p S' H' e r' g => p S' H' _ e r' g rfl
  | exc c d μ' => exact fun p => p
  | bad => exact fun p => p
theorem fe_joined {v1 v2 : Expr} {rest : List Expr} {ms : List EM} (h : PJ X (v1 :: v2 :: rest) (ms.map fun m => tE X.K W m)) : PE X (.JoinedStr (v1 :: v2 :: rest) pos) (tE X.K W (mJoined ms)) :=
  (pe_joined h).imp fun _ _ _ h => joined_read h
end
end FL

namespace FL
open PySem L2 PyProof.Rows PySem.Spec
/-! ### sorting -/
def insB {α : Type} (le : α → α → Bool) (x : α) : List α → List α
  | [] => [x]
  | y :: r => if le x y = true then x :: y :: r else y :: insB le x r
def srt {α : Type} (le : α → α → Bool) : List α → List α
  | [] => []
  | x :: r => insB le x (srt le r)
section
variable {α : Type} {le : α → α → Bool}
theorem insB_perm (x : α) : ∀ l : List α, (insB le x l).Perm (x :: l)
  | [] => .refl _
  | y :: r => by
    unfold insB
    split
    · exact .refl _
    · exact ((insB_perm x r).cons y).trans (.swap x y r)
theorem srt_perm : ∀ l : List α, (srt le l).Perm l
  | [] => .refl _
  | x :: r => (insB_perm x _).trans ((srt_perm r).cons x)
theorem insB_pw (tot : ∀ a b, le a b = true ∨ le b a = true) (tr : ∀ a b c, le a b = true → le b c = true → le a c = true) (x : α) : ∀ l : List α, l.Pairwise (fun a b => le a b = true) → (insB le x l).Pairwise (fun a b => le a b = true)
  | [], _ => by simp [insB]
  | y :: r, h => by
    have h' := List.pairwise_cons.mp h
    unfold insB
    split
    · rename_i e
      refine List.pairwise_cons.mpr ⟨fun z hz => ?_, h⟩
      rcases List.mem_cons.mp hz with rfl | hz
      · exact e
      · exact tr _ _ _ e (h'.1 z hz)
    · rename_i e
      refine List.pairwise_cons.mpr ⟨fun z hz => ?_, insB_pw tot tr x r h'.2⟩
      rcases List.mem_cons.mp ((insB_perm x r).subset hz) with rfl | hz
      · rcases tot z y with q | q
        · exact absurd q e
        · exact q
      · exact h'.1 z hz
theorem srt_pw (tot : ∀ a b, le a b = true ∨ le b a = true) (tr : ∀ a b c, le a b = true → le b c = true → le a c = true) : ∀ l : List α, (srt le l).Pairwise (fun a b => le a b = true)
  | [] => .nil
  | x :: r => insB_pw tot tr x _ (srt_pw tot tr r)
theorem srt_eq (tot : ∀ a b, le a b = true ∨ le b a = true) (tr : ∀ a b c, le a b = true → le b c = true → le a c = true) (an : ∀ a b, le a b = true → le b a = true → a = b) {l l' : List α} (hp : l'.Perm l) (hw : l'.Pairwise (fun a b => le a b = true)) : l' = srt le l :=
  List.Perm.eq_of_pairwise (le := fun a b => le a b = true) (fun a b _ _ => an a b) hw (srt_pw tot tr l) (hp.trans (srt_perm l).symm)
end
def leI (a b : Int) : Bool := decide (a ≤ b)
def leS (a b : Str) : Bool := !ltCps b.cps.toList a.cps.toList
theorem leI_eq {l l' : List Int} (hp : l'.Perm l) (hw : l'.Pairwise (· ≤ ·)) : l' = srt leI l :=
  srt_eq (fun a b => by unfold leI; simp only [decide_eq_true_eq]; omega) (fun a b c => by unfold leI; simp only [decide_eq_true_eq]; omega) (fun a b => by unfold leI; simp only [decide_eq_true_eq]; omega) hp (hw.imp fun h => by unfold leI; simpa using h)
theorem leS_iff {a b : Str} : leS a b = true ↔ a.cps.toList ≤ b.cps.toList := by
  unfold leS
  rw [ltCps_eq]
  simp
theorem leS_tot (a b : Str) : leS a b = true ∨ leS b a = true := by
  rw [leS_iff, leS_iff]
  exact List.le_total _ _
theorem leS_tr (a b c : Str) (h : leS a b = true) (h' : leS b c = true) : leS a c = true := by
  rw [leS_iff] at *
  exact List.le_trans h h'
theorem leS_an (a b : Str) (h : leS a b = true) (h' : leS b a = true) : a = b := by
  rw [leS_iff] at *
  have e := List.le_antisymm h h'
  obtain ⟨⟨x⟩⟩ := a
  obtain ⟨⟨y⟩⟩ := b
  simpa using e
theorem risingS_pw : ∀ (l : List Str) (p : Str), risingS p l = true → (p :: l).Pairwise (fun a b => leS a b = true)
  | [], p, _ => by simp
  | x :: r, p, h => by
    unfold risingS at h
    obtain ⟨h1, h2⟩ := Bool.and_eq_true_iff.mp h
    have ih := risingS_pw r x h2
    refine List.pairwise_cons.mpr ⟨fun z hz => ?_, ih⟩
    rcases List.mem_cons.mp hz with rfl | hz
    · exact h1
    · exact leS_tr _ _ _ h1 ((List.pairwise_cons.mp ih).1 z hz)
theorem leS_eq {l l' : List Str} (hp : l'.Perm l) (hw : sortedS l' = true) : l' = srt leS l := by
  refine srt_eq leS_tot leS_tr leS_an hp ?_
  cases l' with
  | nil => exact .nil
  | cons x r => exact risingS_pw r x hw
/-- the keys of a dict, all texts, all ints -/
def keyS : Key → Option Str
  | .inr x => some x
  | _ => none
def keyI : Key → Option Int
  | .inl x => some x
  | _ => none
def keysS (kvs : List (Key × D)) : Option (List Str) := seqO (kvs.map fun q => keyS q.1)
def keysI (kvs : List (Key × D)) : Option (List Int) := seqO (kvs.map fun q => keyI q.1)
def dSorted (μ : Store) (d : D) : Option D := match asK μ d with
  | some kvs => (match keysS kvs with
    | some ks => if ks.length < 64 then some (.lst ((srt leS ks).map D.str)) else none
    | none => match keysI kvs with
      | some ks => if ks.length < 64 then some (.lst ((srt leI ks).map D.int)) else none
      | none => none)
  | none => match asLR μ d with
    | some ds => (match asStrs ds with
      | some ss => if ss.length < 64 then some (.lst ((srt leS ss).map D.str)) else none
      | none => match asInts ds with
        | some ns => some (.lst ((srt leI ns).map D.int))
        | none => none)
    | none => none
theorem keys_of {f : Key → Option α} {g : α → Key} (hf : ∀ k a, f k = some a → k = g a) : ∀ {kvs : List (Key × D)} {ks : List α}, seqO (kvs.map fun q => f q.1) = some ks → kvs.map (·.1) = ks.map g
  | [], ks, h => by cases h; rfl
  | (k, d) :: kvs, ks, h => by
    rw [List.map_cons] at h
    cases e : f k with
    | none => simp only [e] at h; cases h
    | some a =>
      simp only [e] at h
      unfold seqO at h
      cases e2 : seqO (kvs.map fun q => f q.1) with
      | none => rw [e2] at h; cases h
      | some l =>
        rw [e2] at h
        cases h
        rw [List.map_cons, List.map_cons, keys_of hf e2, hf k a e]
theorem RepK.keys {K : PySem.W.Frag} {S : S3} : ∀ {kvs : List (Key × D)} {ps : List (Key × V)}, RepK K S ps kvs → ps.map (·.1) = kvs.map (·.1)
  | [], _, h => by rw [show _ = [] from h]; rfl
  | (k, d) :: kvs, _, ⟨x, r, e, _, h⟩ => by rw [e, List.map_cons, List.map_cons, RepK.keys h]
section
variable {X : Cx}
theorem cr_sorted (hc : X.calm = true) : CallR X (.builtin "sorted") (rND X.K (on1 dSorted)) := by
  intro pins s σ H xs us Q I rv h
  obtain ⟨S, ds, d, r, hx, e0, p⟩ := h
  obtain ⟨z, rfl, e⟩ := on1_some e0
  clear e0
  obtain ⟨x, rfl, hz⟩ := repL1 hx
  unfold dSorted at e
  cases e1 : asK S.μ z with
  | some kvs =>
    rw [e1] at e
    simp only at e
    obtain ⟨a, ps, rfl, k1, k2⟩ := dct_at r hz e1
    cases e2 : keysS kvs with
    | some ks =>
      rw [e2] at e
      simp only at e
      split at e
      · rename_i h64
        cases e
        refine call_sortedD hc pins s σ H _ us Q I rv ⟨a, ps, ks, rfl, .inl k1, ?_, h64, fun ys q hp hw hq => ?_⟩
        · rw [RepK.keys k2]
          exact keys_of (g := Sum.inr) (fun k a h => by cases k <;> cases h; rfl) e2
        · rw [leS_eq hp hw]
          exact p.lst r (RepL.mkStrs _) hq
      · cases e
    | none =>
      rw [e2] at e
      simp only at e
      cases e3 : keysI kvs with
      | none => rw [e3] at e; cases e
      | some ks =>
        rw [e3] at e
        simp only at e
        split at e
        · rename_i h64
          cases e
          refine call_sortedDI hc pins s σ H _ us Q I rv ⟨a, ps, ks, rfl, .inl k1, ?_, h64, fun ys q hp hw hq => ?_⟩
          · rw [RepK.keys k2]
            exact keys_of (g := Sum.inl) (fun k a h => by cases k <;> cases h; rfl) e3
          · rw [leI_eq hp hw]
            exact p.lst r (RepL.mkInts _) hq
        · cases e
  | none =>
    rw [e1] at e
    simp only at e
    cases e2 : asLR S.μ z with
    | none => rw [e2] at e; cases e
    | some ds =>
      rw [e2] at e
      simp only at e
      obtain ⟨l, ys, rfl, k1, k2⟩ := lstR_at r hz e2
      cases e3 : asStrs ds with
      | some ss =>
        rw [e3] at e
        simp only at e
        split at e
        · rename_i h64
          cases e
          rw [asStrs_some e3] at k2
          rw [k2.strs] at k1
          refine cr_sortedS pins s σ H _ us Q I rv ⟨l, ss, rfl, k1, h64, fun ys q hp hw hq => ?_⟩
          rw [leS_eq hp hw]
          exact p.lst r (RepL.mkStrs _) hq
        · cases e
      | none =>
        rw [e3] at e
        simp only at e
        cases e4 : asInts ds with
        | none => rw [e4] at e; cases e
        | some ns =>
          rw [e4] at e
          cases e
          rw [asInts_some e4] at k2
          rw [k2.ints] at k1
          refine cr_sortedI pins s σ H _ us Q I rv ⟨l, ns, rfl, k1, fun ys q hp hw hq => ?_⟩
          rw [leI_eq hp hw]
          exact p.lst r (RepL.mkInts _) hq
end
/-! ### dict(pairs), list(text) -/
def keyD : D → Option Key
  | .int i => some (.inl i)
  | .str x => some (.inr x)
  | _ => none
def pairD : D → Option (Key × D)
  | .tup [k, v] => (keyD k).map fun k => (k, v)
  | _ => none
def putD (kvs : List (Key × D)) (k : Key) (v : D) : List (Key × D) := if (kvs.any fun kv => decide (kv.1 = k)) = true then kvs.map (fun kv => if kv.1 = k then (kv.1, v) else kv) else kvs ++ [(k, v)]
def mergeD (kvs more : List (Key × D)) : List (Key × D) := more.foldl (fun acc kv => putD acc kv.1 kv.2) kvs
def dDict (μ : Store) (d : D) : Option D := match asLR μ d with
  | some ds => (seqO (ds.map pairD)).map fun ps => .dct (mergeD [] ps)
  | none => match asK μ d with
    | some kvs => some (.dct kvs)
    | none => none
section
variable {K : PySem.W.Frag} {S : S3}
theorem RepK.append : ∀ {ds es : List (Key × D)} {xs ys : List (Key × V)}, RepK K S xs ds → RepK K S ys es → RepK K S (xs ++ ys) (ds ++ es)
  | [], _, _, _, h, h' => by rw [show _ = [] from h]; exact h'
  | (k, d) :: ds, _, _, _, ⟨x, r, e, h1, h2⟩, h' => by rw [e]; exact ⟨x, r ++ _, rfl, h1, RepK.append h2 h'⟩
theorem RepK.any {k : Key} : ∀ {ds : List (Key × D)} {xs : List (Key × V)}, RepK K S xs ds → (xs.any fun kv => decide (kv.1 = k)) = (ds.any fun kv => decide (kv.1 = k))
  | [], _, h => by rw [show _ = [] from h]; rfl
  | (k', d) :: ds, _, ⟨x, r, e, h1, h2⟩ => by rw [e, List.any_cons, List.any_cons, RepK.any h2]
theorem RepK.over {k : Key} {v : V} {d : D} (hv : Rep K S v d) : ∀ {ds : List (Key × D)} {xs : List (Key × V)}, RepK K S xs ds → RepK K S (xs.map fun kv => if kv.1 = k then (kv.1, v) else kv) (ds.map fun kv => if kv.1 = k then (kv.1, d) else kv)
  | [], _, h => by rw [show _ = [] from h]; rfl
  | (k', d') :: ds, _, ⟨x, r, e, h1, h2⟩ => by
    rw [e, List.map_cons, List.map_cons]
    by_cases q : k' = k
    · rw [if_pos q, if_pos q]
      exact ⟨v, _, rfl, hv, RepK.over hv h2⟩
    · rw [if_neg q, if_neg q]
      exact ⟨x, _, rfl, h1, RepK.over hv h2⟩
theorem RepK.put {k : Key} {v : V} {d : D} {ds : List (Key × D)} {xs : List (Key × V)} (h : RepK K S xs ds) (hv : Rep K S v d) : RepK K S (putK xs k v) (putD ds k d) := by
  unfold putK putD
  rw [h.any]
  split
  · exact h.over hv
  · exact h.append ⟨v, [], rfl, hv, rfl⟩
theorem RepK.merge : ∀ {ds : List (Key × D)} {xs : List (Key × V)} {es : List (Key × D)} {ys : List (Key × V)}, RepK K S ys es → RepK K S xs ds → RepK K S (mergeK ys xs) (mergeD es ds)
  | [], _, _, _, h, h' => by rw [show _ = [] from h']; exact h
  | (k, d) :: ds, _, es, ys, h, ⟨x, r, e, h1, h2⟩ => by
    rw [e]
    show RepK K S (mergeK (putK ys k x) r) (mergeD (putD es k d) ds)
    exact RepK.merge (h.put h1) h2
theorem pairs_rep {H : Hp} (r : Rel K S H) : ∀ {ds : List D} {xs : List V} {kvs : List (Key × D)}, RepL K S xs ds → seqO (ds.map pairD) = some kvs → ∃ (ps : List Addr) (vs : List (Key × V)), xs = ps.map V.ref ∧ Paired (fun p (kv : Key × V) => SqT K H p [kV kv.1, kv.2]) ps vs ∧ RepK K S vs kvs
  | [], xs, kvs, h, e => by cases e; exact ⟨[], [], h, .nil, rfl⟩
  | d :: ds, xs, kvs, ⟨x, rest, e0, h1, h2⟩, e => by
    rw [List.map_cons] at e
    cases e1 : pairD d with
    | none => rw [e1] at e; cases e
    | some q =>
      rw [e1] at e
      unfold seqO at e
      cases e2 : seqO (ds.map pairD) with
      | none => rw [e2] at e; cases e
      | some l =>
        rw [e2] at e
        cases e
        obtain ⟨ps, vs, a1, a2, a3⟩ := pairs_rep r h2 e2
        unfold pairD at e1
        split at e1
        · rename_i kd vd
          cases e3 : keyD kd with
          | none => rw [e3] at e1; cases e1
          | some k =>
            rw [e3] at e1
            cases e1
            obtain ⟨a, ys, rfl, b1, b2⟩ := h1
            obtain ⟨y1, y2, rfl, c1, c2⟩ := repL2 b2
            refine ⟨a :: ps, (k, y2) :: vs, by rw [e0, a1]; rfl, .cons ?_ a2, ⟨y2, vs, rfl, c2, a3⟩⟩
            have ek : y1 = kV k := by
              cases kd <;> cases e3 <;> exact c1
            rw [← ek]
            exact sqT_of (r.gh _ _ b1)
        · cases e1
end
theorem vals_get : ∀ {xs : List V} {us : List Value}, xs.length = us.length → (∀ (j : Nat) (x : V) (u : Value), xs[j]? = some x → us[j]? = some u → RelV x u) → Vals xs us
  | [], [], _, _ => .nil
  | [], _ :: _, h, _ => by simp at h
  | _ :: _, [], h, _ => by simp at h
  | x :: xs, u :: us, h, k => .cons (k 0 x u rfl rfl) (vals_get (by simpa using h) fun j y w hy hw => k (j + 1) y w hy hw)
section
variable {X : Cx}
theorem cr_dict (hc : X.calm = true) : CallR X (.type "dict") (rND X.K (on1 dDict)) := by
  intro pins s σ H xs us Q I rv h
  obtain ⟨S, ds, d, r, hx, e0, p⟩ := h
  obtain ⟨z, rfl, e⟩ := on1_some e0
  clear e0
  obtain ⟨x, rfl, hz⟩ := repL1 hx
  unfold dDict at e
  cases e2 : asLR S.μ z with
  | some ds =>
    rw [e2] at e
    simp only at e
    obtain ⟨l, ys, rfl, k1, k2⟩ := lstR_at r hz e2
    cases e3 : seqO (ds.map pairD) with
    | none => rw [e3] at e; cases e
    | some kvs =>
      rw [e3] at e
      cases e
      obtain ⟨ps, vs, rfl, a2, a3⟩ := pairs_rep r k2 e3
      refine call_dictP hc pins s σ H _ us Q I rv ⟨l, ps, vs, rfl, k1, a2, fun q hq => ?_⟩
      have g := r.goPut (o := .dK (mergeK [] vs)) hq
      exact p.put r hq ⟨q, _, rfl, put_self, RepIK.mono g.gg g.len g.ag _ (RepK.merge (ys := []) (es := []) rfl a3)⟩
  | none =>
    rw [e2] at e
    simp only at e
    cases e3 : asK S.μ z with
    | none => rw [e3] at e; cases e
    | some kvs =>
      rw [e3] at e
      cases e
      obtain ⟨a, ps, rfl, k1, k2⟩ := dct_at r hz e3
      refine call_dictD pins s σ H _ us Q I rv ⟨a, ps, rfl, .inl k1, fun q hq => ?_⟩
      have g := r.goPut (o := .dK ps) hq
      exact p.put r hq ⟨q, _, rfl, put_self, RepIK.mono g.gg g.len g.ag _ k2⟩
/-- list(x): a list, a tuple, a text -/
def dList2 (μ : Store) (d : D) : Option D := match d with
  | .str z => if z.cps.size ≤ sizeLine then some (.lst (chrs z)) else none
  | d => dList μ d
theorem cr_list2 (hc : X.calm = true) : CallR X (.type "list") (rND X.K (on1 dList2)) := by
  intro pins s σ H xs us Q I rv h
  obtain ⟨S, ds, d, r, hx, e0, p⟩ := h
  obtain ⟨z, rfl, e⟩ := on1_some e0
  clear e0
  cases z with
  | str z =>
    obtain ⟨x, rfl, hz⟩ := repL1 hx
    rw [show x = V.str z from hz] at rv
    cases rv with
    | cons ru rn =>
      cases rn
      obtain ⟨t, rfl⟩ := ru
      unfold dList2 at e
      simp only at e
      split at e
      · rename_i hl
        cases e
        refine call_list_str (I.ok.hd hc) z t (hn := hl) fun h' tk acc c' hk hS hacc => ?_
        have hp := I.hok.fresh (Nat.le_refl s.heap.objs.size)
        have vals : Vals (z.cps.toList.map fun c => V.str ⟨#[c]⟩) acc.toList := by
          refine vals_get (by simp [hacc.1]) fun j x u hx hu => ?_
          obtain ⟨c, t', hc', rfl⟩ := hacc.2 j u (by simpa using hu)
          rw [List.getElem?_map, Array.getElem?_toList, hc'] at hx
          cases hx
          exact ⟨t', rfl⟩
        refine ⟨.ref s.heap.objs.size, L2.upd H s.heap.objs.size (.lst (z.cps.toList.map fun c => V.str ⟨#[c]⟩)), I.laid hk (Nat.le_refl _) ⟨by simpa using hl, acc.toList, c', vals, by simpa using hS⟩, rfl, p.lst r ?_ hp⟩
        have := RepL.mkStrs (K := X.K) (S := S) (z.cps.toList.map fun c => (⟨#[c]⟩ : Str))
        rw [List.map_map, List.map_map] at this
        exact this
      · cases e
  | _ => exact cr_list pins s σ H xs us Q I rv ⟨S, _, d, r, hx, e, p⟩
end
end FL

namespace FL
open PySem L2 PyProof.Rows PySem.Spec
/-! ### zip of two texts -/
def Itxx (x y : Str) : It := ⟨fun i _ => i < min x.cps.size y.cps.size, fun i H v H' => ∃ T a b, v = .ref T ∧ H T = none ∧ H' = L2.upd H T (.tup [.str ⟨#[a]⟩, .str ⟨#[b]⟩]) ∧ x.cps[i]? = some a ∧ y.cps[i]? = some b, fun i _ => i = min x.cps.size y.cps.size⟩
theorem turn_zipX {P : Program} {w : World} {K : PySem.W.Frag} {elts : List Expr} {kk : Nat} {tpos : Pos} {x y : Str} {t u : Tok} {z TI TO i1 i2 : Addr} (S : ZipSep2 z TI TO i1 i2 [i1] [i2]) :
    Turn P w K (.Tuple elts kk tpos) (Itxx x y) (z :: TI :: TO :: ([i1] ++ [i2])) z (fun i h => IsZip h z TI TO .none ∧ IsTupOf2 h TI (.ref i1) (.ref i2) ∧ (∃ a1 a2, IsTupOf2 h TO a1 a2) ∧ h.IsStrIter i1 (strIterType x) x t i ∧ h.IsStrIter i2 (strIterType y) y u i) := by
  have live : ∀ {i : Nat} {h : Heap}, (IsZip h z TI TO .none ∧ IsTupOf2 h TI (.ref i1) (.ref i2) ∧ (∃ a1 a2, IsTupOf2 h TO a1 a2) ∧ h.IsStrIter i1 (strIterType x) x t i ∧ h.IsStrIter i2 (strIterType y) y u i) → ∀ b ∈ z :: TI :: TO :: ([i1] ++ [i2]), ∃ o, h.get? b = some o ∧ ∀ v, o.data ≠ .cell v := by
    rintro i h ⟨hz, hTI, ⟨a1, a2, hTO⟩, ⟨o1, e1, _, d1⟩, ⟨o2, e2, _, d2⟩⟩ b hb
    have e' : b = z ∨ b = TI ∨ b = TO ∨ b = i1 ∨ b = i2 := by simpa using hb
    rcases e' with q | q | q | q | q
    · rw [q]; exact ⟨_, hz, fun v q => nomatch q⟩
    · rw [q]; exact ⟨_, hTI, fun v q => nomatch q⟩
    · rw [q]; exact ⟨_, hTO, fun v q => nomatch q⟩
    · exact ⟨o1, by rw [q]; exact e1, fun v q => by rw [d1] at q; cases q⟩
    · exact ⟨o2, by rw [q]; exact e2, fun v q => by rw [d2] at q; cases q⟩
  exact {
    mem := by simp
    obj := fun i h st => live st
    keep := fun i h h' st k => by
      obtain ⟨hz, hTI, ⟨a1, a2, hTO⟩, ⟨o1, e1, r1⟩, ⟨o2, e2, r2⟩⟩ := st
      exact ⟨k z (by simp) _ hz, k TI (by simp) _ hTI, ⟨a1, a2, k TO (by simp) _ hTO⟩, ⟨o1, k i1 (by simp) _ e1, r1⟩, ⟨o2, k i2 (by simp) _ e2, r2⟩⟩
    item := by
      intro X hP hw hK hc i pins s σ H E I hf st hg
      subst hP hw hK
      have WT := WalksT.zipD2 (prog := X.prog) (w := X.w) (A := X.A) S (Draws.text (A := X.A.in1) (I.ok.hd hc) i1 x t) (Draws.text (A := X.A.in1) (I.ok.hd hc) i2 y u)
      refine WT.item i s _ _ hg st fun T vals h' tk hPt hT hTu hMid hk => ⟨_, rfl, WT.go elts kk tpos i T { s with heap := h', toks := tk } _ _ hMid fun h2 st2 hk2 => ?_⟩
      obtain ⟨v1, v2, ⟨a, ta, ha, rfl⟩, ⟨b, tb, hb, rfl⟩, rfl⟩ := hPt
      have nT := WT.apart i T h' hMid
      obtain ⟨oT, e1, e2, n, e3⟩ := hTu
      have new : ObjOk X.prog X.w (L2.upd H T (.tup [.str ⟨#[a]⟩, .str ⟨#[b]⟩])) h2 T (.tup [.str ⟨#[a]⟩, .str ⟨#[b]⟩]) := ⟨by show 2 ≤ sizeLine; decide, [.str ⟨#[a]⟩ ta, .str ⟨#[b]⟩ tb], .cons ⟨_, rfl⟩ (.cons ⟨_, rfl⟩ .nil), oT, hk2 T oT nT e1, e2, n, e3⟩
      have I1 := I.turnedNew (t' := tk) (ch := z :: TI :: TO :: ([i1] ++ [i2])) (h' := h2) (fun c o hc e => hk2 c o (fun q => hc (WT.sub c q)) (hk c o (fun q => hc (WT.sub c q)) e)) hf hT new
      refine ⟨.ref T, _, I1, rfl, ⟨T, a, b, rfl, I.hok.fresh hT, rfl, ha, hb⟩, st2, fun c hcm => ?_⟩
      have lt : c < s.heap.objs.size := by
        obtain ⟨o, ho, _⟩ := live st c hcm
        exact Heap.lt_size ho
      rw [upd_ne (Nat.ne_of_lt (Nat.lt_of_lt_of_le lt hT))]
      exact (hf c hcm).1
    done := by
      intro X hP hw hK hc i pins s σ H E I hf st hg
      subst hP hw hK
      have WT := WalksT.zipD2 (prog := X.prog) (w := X.w) (A := X.A) S (Draws.text (A := X.A.in1) (I.ok.hd hc) i1 x t) (Draws.text (A := X.A.in1) (I.ok.hd hc) i2 y u)
      have ei : i = min x.cps.size y.cps.size := hg
      subst ei
      exact WT.done s _ _ st fun h' tk hk => ⟨rfl, I.turnedL (t' := tk) (ch := z :: TI :: TO :: ([i1] ++ [i2])) (fun c o hc e => hk c o (fun q => hc (WT.sub c q)) e) hf⟩
    self := fun A i s Q E st h => wpAny_pyIter_zip st.1 h }
def zipXD (ds : List D) : Option (List D) := match ds with
  | [.str x, .str y] => some (zipL (chrs x) (chrs y))
  | _ => none
theorem chrs_get {x : Str} {i c : Nat} (h : x.cps[i]? = some c) : (chrs x)[i]? = some (.str ⟨#[c]⟩) := by
  unfold chrs
  rw [List.getElem?_map, Array.getElem?_toList, h]
  rfl
theorem chrs_length {x : Str} : (chrs x).length = x.cps.size := by simp [chrs]
section
variable {X : Cx} {W : WX} {e e2 : Expr} {ms : Env → M (List D)} {p pos tpos : Pos}
theorem fi_zipX {elts : List Expr} {kk : Nat} (hg : Gl X "zip") (hm : X.mg "zip" = none) (ha : PA X [e, e2] (tA X.K W ms)) (hs : starEach [e, e2] X.env = (false, eval e X.env) :: starEach [e2] X.env := by rfl) (hpl : (backTo pos (starEach [e2] X.env)).any (·.1) = false := by rfl) :
    PI X (.Tuple elts kk tpos) (.Call (.Name "zip" p) [e, e2] [] pos) (tI X.K W (iArgs zipXD ms)) := by
  refine ⟨fun pins s σ H R I h => ?_⟩
  refine Call_ (ld_blt I hg hm PyProof.Rows.boot_zip (PyProof.Rows.callWith_type1 (thn (ha.run pos pins s σ H _ I (tI_args h)) fun us s1 ⟨vs, H1, I1, r1, S1, ds, is, r, hv, e, k⟩ => ?_) hs hpl))
  unfold zipXD at e
  split at e
  · rename_i x y
    cases e
    obtain ⟨v1, v2, rfl, h1, h2⟩ := repL2 hv
    rw [show v1 = V.str x from h1, show v2 = V.str y from h2] at r1
    cases r1 with
    | cons q1 rr =>
      cases rr with
      | cons q2 rr =>
        cases rr
        obtain ⟨t, rfl⟩ := q1
        obtain ⟨u, rfl⟩ := q2
        refine zip_begins2 (begins_text x t) (begins_text y u) trivial trivial fun h' hz hTI hTO g1 g2 hsz hk => wpAny_pyIter_zip hz ?_
        have I2 : Inv X pins σ H1 { s1 with heap := h' } := I1.kept (t' := s1.toks) hk
        have sep : ZipSep2 (s1.heap.objs.size + 4) (s1.heap.objs.size + 2) (s1.heap.objs.size + 3) s1.heap.objs.size (s1.heap.objs.size + 1) [s1.heap.objs.size] [s1.heap.objs.size + 1] := zip_sep2 (fp1 := []) (fp2 := []) (fun _ h => nomatch h) (fun _ h => nomatch h)
        refine ⟨s1.heap.objs.size + 4, _, _, _, H1, rfl, I2, turn_zipX sep, ⟨hz, hTI, ⟨_, _, hTO⟩, ⟨_, g1, rfl, rfl⟩, ⟨_, g2, rfl, rfl⟩⟩, fun b hb => ?_, k _ ?_⟩
        · have e' : b = s1.heap.objs.size + 4 ∨ b = s1.heap.objs.size + 2 ∨ b = s1.heap.objs.size + 3 ∨ b = s1.heap.objs.size ∨ b = s1.heap.objs.size + 1 := by simpa using hb
          have hle : s1.heap.objs.size ≤ b := by
            rcases e' with q | q | q | q | q <;> rw [q] <;> first | exact Nat.le_add_right _ _ | exact Nat.le_refl _
          exact I1.fpOk hle (I1.hok.fresh hle)
        · exact {
            go := fun S' H' i _ _ hi => by
              rw [zipL_length, chrs_length, chrs_length] at hi
              exact hi
            stop := fun S' H' _ _ => by
              show _ = _
              rw [zipL_length, chrs_length, chrs_length]
            yld := fun S' H' i v H'' ex r' hi hy => by
              obtain ⟨T, a, b, rfl, hT, rfl, ha, hb⟩ := hy
              exact ⟨S'.put T (.tup [.str ⟨#[a]⟩, .str ⟨#[b]⟩]), .tup [.str ⟨#[a]⟩, .str ⟨#[b]⟩], zipL_get (chrs_get ha) (chrs_get hb), rfl, r'.put hT, r'.goPut hT, putTup r' hT (RepL.mkStrs [_, _])⟩ }
  · cases e
end
/-! ### lists that are changed -/
def setCell (μ : Store) (o i v : D) : Option Store := match o, i with
  | .obj n, .int k => (match cellL μ n with
    | some ds => (match ixN ds.length k with
      | some j => some (μ.set n (.lst (ds.set j v)))
      | none => none)
    | none => none)
  | _, _ => none
def appCell (μ : Store) (o v : D) : Option Store := match o with
  | .obj n => (match cellL μ n with
    | some ds => if ds.length < sizeLine then some (μ.set n (.lst (ds ++ [v]))) else none
    | none => none)
  | _ => none
def sSetIx (mo mi me : EM) : SM := fun ρ => thenS (me ρ) ρ fun v => thenS (mo ρ) ρ fun o => thenS (mi ρ) ρ fun i μ => match setCell μ o i v with
  | some μ' => .ok (.next ρ) μ'
  | none => .bad
def mApp (mo me : EM) : EM := fun ρ => (mo ρ).bnd fun o μ => match asL μ o with
  | some _ => (me ρ).bnd (fun v μ => match appCell μ o v with
    | some μ' => .ok .non μ'
    | none => .bad) μ
  | none => .bad
theorem cell_lst {K : PySem.W.Frag} {S : S3} {H : Hp} (r : Rel K S H) {n : Nat} {ds : List D} (e : cellL S.μ n = some ds) : n < S.μ.length ∧ ∃ xs, H (S.ι n) = some (.lst xs) ∧ RepL K S xs ds := by
  have q := cellL_some e
  obtain ⟨_, o, ho, hc⟩ := r.cell n _ q
  refine ⟨(List.getElem?_eq_some_iff.mp q).1, ?_⟩
  cases o with
  | lst xs => exact ⟨xs, ho, hc⟩
  | _ => exact hc.elim
section
variable {X : Cx} {W : WX} {o i e : Expr} {mo mi me : EM} {pos p2 apos cpos : Pos}
theorem fs_setIx (ho : PE X o (tE X.K W mo)) (hi : PE X i (tE X.K W mi)) (he : PE X e (tE X.K W me)) (hs : swapsWithSole [.Subscript o i p2] e pos.line X.env = pure false := by rfl) (hw : swappedStores [.Subscript o i p2] e X.env = pure none := by rfl)
    (h1 : (assignEach [.Subscript o i p2] X.env).map (·.2) = [assign (.Subscript o i p2) X.env] := by rfl)
    (ha : ∀ v, assign (.Subscript o i p2) X.env v = (do
      let ov ← holding [v] (eval o X.env)
      let iv ← holding [v, ov] (eval i X.env)
      standAt p2
      holding [v, ov, iv] (setItem ov iv v)
      release [v, ov, iv] []) := by intro _; rfl) : PS X (.Assign [.Subscript o i p2] e pos) (tS X.K W (sSetIx mo mi me)) := by
  refine (ps_asg he (pg_sub ho hi set_list ha) hs hw h1).imp fun T σ H ⟨S, ρ, r, rs, p⟩ => ⟨S, ρ, r, rs, (thenS_read (R := Rep X.K) rs p).imp fun v H1 ⟨S1, d, r1, g1, rs1, hv, p1⟩ => ?_⟩
  refine ⟨S1, ρ, r1, rs1, (thenS_read (R := Rep X.K) rs1 p1).imp fun ov H2 ⟨S2, dO, r2, g2, rs2, hO, p2⟩ => ?_⟩
  refine ⟨S2, ρ, r2, rs2, (thenS_read (R := Rep X.K) rs2 p2).imp fun iv H3 ⟨S3, di, r3, g3, rs3, hI, p3⟩ => ?_⟩
  unfold setCell at p3
  have hO := Rep.go hO g3
  have hv := Rep.go (Rep.go hv g2) g3
  cases dO with
  | obj n =>
    cases di with
    | int k =>
      simp only at p3
      cases e1 : cellL S3.μ n with
      | none => rw [e1] at p3; exact p3.elim
      | some ds =>
        rw [e1] at p3
        simp only at p3
        cases e2 : ixN ds.length k with
        | none => rw [e2] at p3; exact p3.elim
        | some j =>
          rw [e2] at p3
          simp only at p3
          obtain ⟨hn, xs, hx, hr⟩ := cell_lst r3 e1
          obtain ⟨_, rfl⟩ := hO
          refine ⟨S3.ι n, xs, k, j, rfl, hI, hx, by rw [hr.length]; exact e2, ?_⟩
          have hc : CellR X.K S3 (.lst (xs.set j v)) (.lst (ds.set j d)) := RepL.set j hr hv
          exact p3 (S3.upd n (.lst (ds.set j d))) _ σ rfl (r3.upd hn hc) (r3.goUpd hn) (rs3.go (r3.goUpd (o := .lst (xs.set j v)) hn))
    | _ => exact p3.elim
  | _ => exact p3.elim
/-- xs.append(e) -/
theorem fe_app (ho : PE X o (tE X.K W mo)) (he : PE X e (tE X.K W me)) (hbase : attributeBase o "append" X.env (eval o X.env) = eval o X.env := by rfl)
    (hfew : ((backTo cpos (starEach [e] X.env)).all (fun x => !x.1) && (backToKw cpos (keywordEach [] X.env)).all (fun x => x.1.isSome)
      && decide ([e].length + ([] : List Keyword).length + (if ([] : List Keyword).isEmpty then 0 else 1) < 30)) = true := by rfl)
    (hline : (apos.endLine == cpos.line) = true := by rfl) (hs : starEach [e] X.env = (false, eval e X.env) :: starEach [] X.env := by rfl) (hplain : (backTo cpos (starEach [] X.env)).any (·.1) = false := by rfl) :
    PE X (.Call (.Attribute o "append" apos) [e] [] cpos) (tE X.K W (mApp mo me)) := by
  refine (pe_bm F.plainAttrs_list F.slot_list_append F.type_list_append mt_append ho (pa_cons he pa_nil hs) hbase hfew hline hs hplain).imp fun σ H Q ⟨S, ρ, r, rs, p⟩ => ⟨S, ρ, r, rs, p.bind.imp fun ov H1 ⟨S1, dO, r1, g1, hO, p1⟩ => ?_⟩
  cases e0 : asL S1.μ dO with
  | none => rw [e0] at p1; exact p1.elim
  | some ds0 =>
    rw [e0] at p1
    obtain ⟨a0, xs0, rfl, hx0, _⟩ := lst_at r1 hO e0
    refine ⟨.inl ⟨rfl, xs0, sqL_of hx0⟩, S1, ρ, r1, rs.go g1, PostG.imp (PostG.bind (R' := Rep X.K) p1) fun v H2 ⟨S2, d, r2, g2, hv, p2⟩ => ?_⟩
    have hO := Rep.go hO g2
    unfold appCell at p2
    cases dO with
    | obj n =>
      simp only at p2
      cases e1 : cellL S2.μ n with
      | none => rw [e1] at p2; exact p2.elim
      | some ds =>
        rw [e1] at p2
        simp only at p2
        by_cases hz : ds.length < sizeLine
        · rw [if_pos hz] at p2
          obtain ⟨hn, xs, hx, hr⟩ := cell_lst r2 e1
          obtain ⟨_, eO⟩ := hO
          refine ⟨a0, xs, v, rfl, rfl, by rw [show a0 = S2.ι n from V.ref.inj eO]; exact hx, by rw [hr.length]; exact hz, ?_⟩
          rw [show a0 = S2.ι n from V.ref.inj eO]
          have hc : CellR X.K S2 (.lst (xs ++ [v])) (.lst (ds ++ [d])) := RepL.append hr ⟨v, [], rfl, hv, rfl⟩
          exact p2 (S2.upd n (.lst (ds ++ [d]))) _ .non rfl (r2.upd hn hc) (r2.goUpd hn) rfl
        · rw [if_neg hz] at p2; exact p2.elim
    | _ => exact p2.elim
end
end FL

namespace FL
open PySem L2 PyProof.Rows PySem.Spec
/-! ### the law's end -/
/-- the store of the law's start: nothing but the script -/
theorem rel_start {K : PySem.W.Frag} {a : Addr} {o : Obj} {ns : List Int} {H : Hp} (cn : ∀ c ∈ clsNames, ∀ c' ∈ clsNames, He.ga K c ≠ 0 → He.ga K c = He.ga K c' → c = c') (h : H a = some (.frz o (.lst (ns.map V.int)))) :
    Rel K ⟨fun _ => 0, fun b => if b = a then some (.frz o (.lst (ns.map V.int))) else none, []⟩ H where
  cn := cn
  gh := fun b u e => by
    have e' : (if b = a then some (HO.frz o (.lst (ns.map V.int))) else none) = some u := e
    by_cases hb : b = a
    · rw [if_pos hb] at e'; cases e'; rw [hb]; exact h
    · rw [if_neg hb] at e'; cases e'
  inj := fun i j hi => absurd hi (Nat.not_lt_zero _)
  cell := fun i c e => by
    have e' : ([] : Store)[i]? = some c := e
    simp at e'
def noL (K : PySem.W.Frag) : Prop := ∀ a o, K.lookup a = some o → o.cls ≠ .type "list"
/-- a law whose function is true of all scripts -/
theorem lawG {P : Program} {w : World} {K : PySem.W.Frag} {mg mb : Str → Option Value} {k : Nat} {fa a : Addr} {fd : FuncData} {x : Str} {φ : List D → M D} {t1 : Shared} {vs : List Value} {ns : List Int}
    (KX : K.In t1.heap) (hnl : noL K) (cn : ∀ c ∈ clsNames, ∀ c' ∈ clsNames, He.ga K c ≠ 0 → He.ga K c = He.ga K c' → c = c') (hns : t1.heap.Ns mainGlobals mg) (hb : t1.heap.Ns builtinsNs mb) (hbb : ∀ x : Str, x ≠ "__name__" → mb x = bootBuiltins x) (hlim : t1.heap.NoLimit) (hg : t1.gens = #[])
    (ha : t1.heap.get? a = some { cls := .type "list", data := .seq vs.toArray }) (hi : IntsAre vs ns) (hl : ns.length ≤ sizeLine) (hr : Room k callerA)
    (F : ∀ base : Heap, K.In base → base.Ns mainGlobals mg → FnG P w K mg base k fa fd [x] φ) (hbind : ∀ (s : Shared) (u : Value), BindsTo s fd ⟨[u], []⟩ [(x, u)]) (hφ : ∃ μ, φ [.scr ns] [] = .ok (.bl true) μ) :
    codeAny (model P w) callerA (.call (.ref fa) ⟨[.ref a], []⟩) (fun r s' => r = .ok (.ret (.bool true)) ∧ OldK t1.heap s'.heap ∧ s'.os = t1.os ∧ AllBare s'.gens) t1 := by
  have rv := vals_ints hi
  have lenV := hi.length
  have hk : K.lookup a = none := by
    cases q : K.lookup a with
    | none => rfl
    | some o =>
      have e := KX a o q
      rw [ha] at e
      cases e
      exact absurd rfl (hnl a _ q)
  let ob : Obj := { cls := .type "list", data := .seq vs.toArray }
  let H : Hp := fun b => if b = a then some (.frz ob (.lst (ns.map V.int))) else none
  have Ha : H a = some (.frz ob (.lst (ns.map V.int))) := if_pos rfl
  have Hn : ∀ b, b ≠ a → H b = none := fun b hb => if_neg hb
  have hok : HOk P w H t1.heap := fun b u z => by
    by_cases hb : b = a
    · subst hb
      rw [Ha] at z
      cases z
      exact ⟨ha, by rw [List.length_map]; exact hl, vs, _, rv, ha⟩
    · rw [Hn b hb] at z; cases z
  have seen : ∀ {b : Addr} {o : Obj}, t1.heap.get? b = some o → b ≠ a → (hidT t1.heap H).get? b = some o := fun e n => hidT_get e (Hn _ n)
  have nsK : ∀ {b : Addr} {m : Str → Option Value}, t1.heap.Ns b m → (hidT t1.heap H).Ns b m := fun {b m} ⟨o, es, ep, e, d, r⟩ => ⟨o, es, ep, seen e (fun z => by
    subst z
    rw [ha] at e
    cases e
    cases d), d, r⟩
  have hKb : K.In (hidT t1.heap H) := fun b o e => seen (KX b o e) fun z => by rw [z, hk] at e; cases e
  have hM : Mod K mg (hidT t1.heap H) := ⟨hKb, nsK hns, ⟨mb, nsK hb, hbb⟩, let ⟨mc, h1, h2⟩ := hlim; ⟨mc, nsK h1, h2⟩⟩
  have e0 : Env0 P w K mg (hidT t1.heap H) callerA [] t1 H := ⟨rfl, hM, fun b o e => of_hidT e, Nat.le_of_eq (hidT_size _ _), trivial, fun b hb => absurd (show b ∈ ([] : List Addr) from hb) (by simp), hok, .of_eq hg⟩
  obtain ⟨μ, hφ⟩ := hφ
  have sp : spD K φ [.ref a] H (fun v _ => v = .bl true) fun _ _ _ => False := by
    refine ⟨_, [.scr ns], rel_start cn Ha, ⟨.ref a, [], rfl, ⟨a, ob, rfl, if_pos rfl⟩, rfl⟩, ?_⟩
    show Post _ _ _ _ (φ [.scr ns] []) _
    rw [hφ]
    exact fun S' H' v _ _ _ hv => hv
  refine codeAny_mono ((F _ hKb (nsK hns)).run callerA [] t1 H ⟨[.ref a], []⟩ [.ref a] [.ref a] _ _ hr rfl e0 (hbind t1 (.ref a)) (.cons rfl .nil) sp) fun r s' h => ?_
  cases r with
  | error e => exact let ⟨_, _, _, _, _, _, _, _, _, _, _, _, z⟩ := h; z.elim
  | ok fl =>
    cases fl with
    | next => exact False.elim h
    | brk => exact False.elim h
    | cont => exact False.elim h
    | ret u =>
      obtain ⟨v, H', os, bare, un, hok', r', q⟩ := h
      rw [show v = V.bl true from q] at r'
      rw [show u = Value.bool true from r']
      refine ⟨rfl, OldK.of_keep fun b o e => ?_, os, bare⟩
      by_cases hb : b = a
      · subst hb
        obtain ⟨e1, _⟩ := hok b _ Ha
        obtain ⟨e2, _⟩ := hok' b _ (un.frzs b ob _ Ha)
        rw [e] at e1; cases e1
        exact e2
      · exact un.keep b o e (Hn b hb) (by intro z; exact absurd (show b ∈ ([] : List Addr) from z) (by simp)) (by simp)
/-! ### the Hook -/
def isListO (o : Obj) : Bool := match o.cls with
  | .type c => c == "list"
  | _ => false
def frF (g : Addr → Option Obj) (as : List Addr) : PySem.W.Frag := (He.frG g as).filter fun q => !isListO q.2
theorem frF_at {g : Addr → Option Obj} {as : List Addr} {a : Addr} {o : Obj} (h : (frF g as).lookup a = some o) : g a = some o ∧ isListO o = false := by
  have m := List.mem_filter.mp (He.lookup_mem h)
  exact ⟨He.frG_mem m.1, by simpa using m.2⟩
theorem frF_in {h : Heap} {as : List Addr} : (frF h.get? as).In h := fun a o e => (frF_at e).1
theorem frF_noL {g : Addr → Option Obj} {as : List Addr} : noL (frF g as) := fun a o e c => by
  have q := (frF_at e).2
  unfold isListO at q
  rw [c] at q
  simp at q
/-- an error's class: its name, its field, where its __init__ stands in the text -/
structure ErD where
  c : Str
  f : Str
  q : Str
  p : List Pos
def ErD.at (e : ErD) (i : Nat) : Pos := e.p.getD i ⟨0, 0, 0, 0⟩
abbrev ErW : Type := Option (Str × Str × Arguments × FuncBody × Scope × Addr × List Str × Addr)
def iniA (K : PySem.W.Frag) (c : Str) : Addr := He.ma K (He.ga K c) "__init__"
def errW (K : PySem.W.Frag) (e : ErD) : ErW := match K.lookup (iniA K e.c) with
  | some ⟨_, _, .func fd, _⟩ => some (fd.name, fd.qualname, fd.params, fd.body, fd.scope, fd.globals, fd.closure.map (·.1), fd.builtins)
  | _ => none
def ErD.val (e : ErD) : ErW := some ("__init__", e.q, iA e.f (e.at 0) (e.at 1), .stmts (iB e.f (e.at 2) (e.at 3) (e.at 4) (e.at 5) (e.at 6) (e.at 7) (e.at 8) (e.at 9) (e.at 10) (e.at 11)), iS e.f, mainGlobals, ["__class__"], builtinsNs)
def okFB (f : Str) : Bool := f == ("value" : Str) || (f == ("name" : Str) || (f == ("at" : Str) || (f == ("number" : Str) || f == ("line" : Str))))
theorem okFB_ok {f : Str} (h : okFB f = true) : OkF f := by
  unfold okFB at h
  simp only [Bool.or_eq_true, beq_iff_eq] at h
  exact h
def closB (P : Program) (K : PySem.W.Frag) (C : Addr) (q : Str) (fd : FuncData) : Bool := (match fd.defaults with
  | .none => true
  | _ => false) && (PySem.W.codeIn K fd.code q && ((match fd.closure with
  | [(_, cc)] => (match K.lookup cc with
    | some ⟨_, _, .cell (some (.ref D)), _⟩ => decide (D = C)
    | _ => false)
  | _ => false) && (match fd.code with
  | .ref cda => (match K.lookup cda with
    | some ⟨_, _, .fields vs, _⟩ => (match (vs[2]? : Option Value) with
      | some (.str file _) => P.main.file == file
      | _ => false)
    | _ => false)
  | _ => false)))
def errB (P : Program) (K : PySem.W.Frag) (e : ErD) : Bool :=
  let C := He.ga K e.c
  let I := iniA K e.c
  okFB e.f && (He.eqO (PySem.W.nsIn K mainGlobals e.c) (some (some (.ref C))) && (PySem.W.excInitIn K C exB "Exception.__new__" && (PySem.W.excOver K C exB && (PySem.W.hasDictIn K C &&
  (He.eqO (PySem.W.findIn K (.ref C) "__setattr__") (some (some (.builtin "object.__setattr__"))) && (He.eqO (PySem.W.findIn K (.ref C) "__getattribute__") (some (some (.builtin "BaseException.__getattribute__"))) &&
  (He.eqO (PySem.W.findIn K (.ref C) "__getattr__") (some none) && (He.eqO (PySem.W.findIn K (.ref C) e.f) (some none) && (He.eqO (PySem.W.findIn K (.ref C) "__init__") (some (some (.ref I))) && (decide (PySem.W.typeIn K (.ref I) = some (.type "function")) &&
  (PySem.W.keepIn K (.ref C) && (decide (PySem.W.subIn K (.ref C) (.type "BaseException") = some true) && (decide (PySem.W.subIn K (.ref C) (.type "Exception") = some true) && (decide (PySem.W.typeIn K (.ref C) = some (.type "type")) &&
  (decide (PySem.W.mroIn K C (.ref C) = some true) && (He.eqO (PySem.W.nsIn K mainGlobals "super") (some none) && (!(P.main.scope.names.lookup ("super" : Str)).isSome && (He.eqO (PySem.W.nsIn K cStatics "thirdparty.any") (some none) &&
  (He.eqO (PySem.W.ks_superIn K C C "__init__") (some (some (.builtin "Exception.__init__"))) && ((match K.lookup I with
  | some ⟨_, _, .func fd, _⟩ => closB P K C e.q fd
  | _ => false) && ((e.at 4).endLine == (e.at 6).line)))))))))))))))))))))
theorem band {a b : Bool} (h : (a && b) = true) : a = true ∧ b = true := Bool.and_eq_true_iff.mp h
theorem closB_ok {P : Program} {K : PySem.W.Frag} {C cc : Addr} {q nm : Str} {fd : FuncData} (h : closB P K C q fd = true) (hcl : fd.closure = [(nm, cc)]) : fd.defaults = .none ∧ PySem.W.codeIn K fd.code q = true ∧ (∃ cl cld csl, K.lookup cc = some ⟨cl, cld, .cell (some (.ref C)), csl⟩) ∧
    ∃ (cda : Addr) (ccl : Value) (cdd : Option Addr) (vs : Array Value) (ccs : Array (Option Value)) (file : Str) (tf : Tok), fd.code = .ref cda ∧ K.lookup cda = some ⟨ccl, cdd, .fields vs, ccs⟩ ∧ vs[2]? = some (.str file tf) ∧ ((P.main.file : Str) == file) = true := by
  unfold closB at h
  obtain ⟨c1, c2⟩ := band h
  obtain ⟨c2, c3⟩ := band c2
  obtain ⟨c3, c4⟩ := band c3
  rw [hcl] at c3
  refine ⟨?_, c2, ?_, ?_⟩
  · cases e : fd.defaults with
    | none => rfl
    | _ => rw [e] at c1; cases c1
  · cases hc : K.lookup cc with
    | none => simp only [hc] at c3; cases c3
    | some o =>
      obtain ⟨cl, cld, cdt, csl⟩ := o
      simp only [hc] at c3
      cases cdt with
      | cell ov =>
        cases ov with
        | none => cases c3
        | some cv =>
          cases cv with
          | ref D' => exact ⟨cl, cld, csl, by rw [of_decide_eq_true c3]⟩
          | _ => cases c3
      | _ => cases c3
  · cases e : fd.code with
    | ref cda =>
      rw [e] at c4
      simp only at c4
      cases hcode : K.lookup cda with
      | none => rw [hcode] at c4; cases c4
      | some o =>
        obtain ⟨ccl, cdd, ddt, ccs⟩ := o
        rw [hcode] at c4
        cases ddt with
        | fields vs =>
          simp only at c4
          cases hvs : (vs[2]? : Option Value) with
          | none => rw [hvs] at c4; cases c4
          | some fv =>
            rw [hvs] at c4
            cases fv with
            | str file tf => exact ⟨cda, ccl, cdd, vs, ccs, file, tf, rfl, hcode, hvs, c4⟩
            | _ => cases c4
        | _ => cases c4
    | _ => rw [e] at c4; cases c4
theorem err_of {P : Program} {K : PySem.W.Frag} {h : Heap} {mg : Str → Option Value} (X : K.In h) (G : h.Ns mainGlobals mg) {e : ErD} (hb : errB P K e = true) (hw : errW K e = e.val) : ErrC P K mg e.c e.f (He.ga K e.c) (iniA K e.c) := by
  unfold errB at hb
  obtain ⟨h1, hb⟩ := band hb
  replace hb := band hb
  obtain ⟨h2, hb⟩ := hb
  replace hb := band hb
  obtain ⟨h3, hb⟩ := hb
  replace hb := band hb
  obtain ⟨h4, hb⟩ := hb
  replace hb := band hb
  obtain ⟨h5, hb⟩ := hb
  replace hb := band hb
  obtain ⟨h6, hb⟩ := hb
  replace hb := band hb
  obtain ⟨h7, hb⟩ := hb
  replace hb := band hb
  obtain ⟨h8, hb⟩ := hb
  replace hb := band hb
  obtain ⟨h9, hb⟩ := hb
  replace hb := band hb
  obtain ⟨h10, hb⟩ := hb
  replace hb := band hb
  obtain ⟨h11, hb⟩ := hb
  replace hb := band hb
  obtain ⟨h12, hb⟩ := hb
  replace hb := band hb
  obtain ⟨h13, hb⟩ := hb
  replace hb := band hb
  obtain ⟨h14, hb⟩ := hb
  replace hb := band hb
  obtain ⟨h15, hb⟩ := hb
  replace hb := band hb
  obtain ⟨h16, hb⟩ := hb
  replace hb := band hb
  obtain ⟨h17, hb⟩ := hb
  replace hb := band hb
  obtain ⟨h18, hb⟩ := hb
  replace hb := band hb
  obtain ⟨h19, hb⟩ := hb
  replace hb := band hb
  obtain ⟨h20, hb⟩ := hb
  obtain ⟨h21, h22⟩ := band hb
  refine { okf := okFB_ok h1, gC := PySem.W.mg_of X G (He.eqO_ok h2), q1 := h3, q2 := h4, hd := h5, sa := He.eqO_ok h6, ga := He.eqO_ok h7, gg := He.eqO_ok h8, noN := He.eqO_ok h9, iC := He.eqO_ok h10, tC := of_decide_eq_true h11, kC := h12, exC := of_decide_eq_true h13, sE := of_decide_eq_true h14, tyC := of_decide_eq_true h15, mr := of_decide_eq_true h16, sup := PySem.W.mg_none_of X G (He.eqO_ok h17), top := by simpa using h18, any := He.eqO_ok h19, ini := He.eqO_ok h20, fn := ?_ }
  unfold errW at hw
  cases q : K.lookup (iniA K e.c) with
  | none => rw [q] at h21; cases h21
  | some o =>
    obtain ⟨oc, od, dt, osl⟩ := o
    rw [q] at h21 hw
    cases dt with
    | func fd =>
      obtain ⟨n1, n2, n3, n4, n5, n6, n7, n8, n9, n10, n11, n12, n13, n14, n15⟩ := fd
      have hw' : (some (n1, n2, n3, n4, n5, n6, n7.map (·.1), n15) : ErW) = e.val := hw
      unfold ErD.val at hw'
      simp only [Option.some.injEq, Prod.mk.injEq] at hw'
      obtain ⟨e1, e2, e3, e4, e5, e6, e7, e8⟩ := hw'
      subst e1 e2 e3 e4 e5 e6 e8
      obtain ⟨cc, rfl⟩ : ∃ cc, n7 = [(PySem.Str.ofString "__class__", cc)] := by
        cases n7 with
        | nil => cases e7
        | cons z r =>
          cases r with
          | nil =>
            obtain ⟨z1, z2⟩ := z
            have : z1 = PySem.Str.ofString "__class__" := by simpa using e7
            exact ⟨z2, by rw [this]⟩
          | cons y r => simp at e7
      obtain ⟨d1, d2, ⟨cl, cld, csl, d3⟩, cda, ccl, cdd, vs, ccs, file, tf, d4, d5, d6, d7⟩ := closB_ok (nm := PySem.Str.ofString "__class__") (cc := cc) h21 rfl
      cases (show n8 = Value.none from d1)
      cases (show n13 = Value.ref cda from d4)
      exact ⟨oc, od, n9, n10, n11, n12, cda, n14, osl, cc, e.q, e.at 0, e.at 1, e.at 2, e.at 3, e.at 4, e.at 5, e.at 6, e.at 7, e.at 8, e.at 9, e.at 10, e.at 11, ccl, cl, cdd, cld, ccs, csl, vs, file, tf, rfl, d2, d3, d5, d6, d7, h22⟩
    | _ => cases h21
abbrev AlF : Type := Bool × List He.FnW × List ErW
structure SaysF (P : Program) (fa : List He.Fa) (fn : List He.DefD) (er : List ErD) (ex : PySem.W.Frag → Bool) (K : PySem.W.Frag) : Prop where
  nl : noL K
  fact : ∀ f ∈ fa, f.ok K = true
  def_ : ∀ d ∈ fn, d.ok K = true ∧ He.fnW K d.at_ = d.val
  err : ∀ e ∈ er, errB P K e = true ∧ errW K e = e.val
  more : ex K = true
def obsF (P : Program) (fa : List He.Fa) (fn : List He.DefD) (er : List ErD) (ex : PySem.W.Frag → Bool) (K : PySem.W.Frag) : AlF := ((fa.all fun f => f.ok K) && ((fn.all fun d => d.ok K) && ((er.all fun e => errB P K e) && ex K)), fn.map fun d => He.fnW K d.at_, er.map fun e => errW K e)
def valF (fn : List He.DefD) (er : List ErD) : AlF := (true, fn.map He.DefD.val, er.map ErD.val)
def obsFG (P : Program) (n : Nat) (fa : List He.Fa) (fn : List He.DefD) (er : List ErD) (ex : PySem.W.Frag → Bool) (g : Addr → Option Obj) : AlF := obsF P fa fn er ex (frF g (cStatics :: He.asD g n))
theorem map_all {α β : Type} {f g : α → β} : ∀ {l : List α}, l.map f = l.map g → ∀ a ∈ l, f a = g a
  | [], _, _, h => nomatch h
  | x :: l, e, a, h => by
    rw [List.map_cons, List.map_cons] at e
    injection e with e1 e2
    rcases List.mem_cons.mp h with rfl | h
    · exact e1
    · exact map_all e2 a h
theorem saysF_of {P : Program} {n : Nat} {fa : List He.Fa} {fn : List He.DefD} {er : List ErD} {ex : PySem.W.Frag → Bool} {h : Heap} (e : obsFG P n fa fn er ex h.get? = valF fn er) : SaysF P fa fn er ex (frF h.get? (cStatics :: He.asD h.get? n)) := by
  have e1 := congrArg (fun z : AlF => z.1) e
  have e2 := congrArg (fun z : AlF => z.2.1) e
  have e3 := congrArg (fun z : AlF => z.2.2) e
  obtain ⟨a1, a2⟩ := band e1
  obtain ⟨a2, a3⟩ := band a2
  obtain ⟨a3, a4⟩ := band a3
  exact ⟨frF_noL, List.all_eq_true.mp a1, fun d hd => ⟨List.all_eq_true.mp a2 d hd, map_all e2 d hd⟩, fun d hd => ⟨List.all_eq_true.mp a3 d hd, map_all e3 d hd⟩, a4⟩
def hookF (P : Program) (n : Nat) (fa : List He.Fa) (fn : List He.DefD) (er : List ErD) (ex : PySem.W.Frag → Bool) : PySem.W.Hook where
  α := AlF
  obs := fun s => obsFG P n fa fn er ex s.heap.get?
  val := fun _ => valF fn er
  says := fun _ h => ∃ K : PySem.W.Frag, K.In h ∧ SaysF P fa fn er ex K
  of := fun _ _ e => ⟨_, frF_in, saysF_of e⟩
  keeps := fun _ _ _ ⟨K, hK, c⟩ k => ⟨K, PySem.W.Frag.In.keeps hK k, c⟩
theorem obsFG_eq {P : Program} {n : Nat} {fa : List He.Fa} {fn : List He.DefD} {er : List ErD} {ex : PySem.W.Frag → Bool} {g : Addr → Option Obj} {s : Shared} (h : ∀ a, g a = s.heap.get? a) : obsFG P n fa fn er ex g = (hookF P n fa fn er ex).obs s := by
  have e : g = s.heap.get? := funext h
  rw [e] <;> rfl
theorem SaysF.fun_ {P : Program} {fa : List He.Fa} {fn : List He.DefD} {er : List ErD} {ex : PySem.W.Frag → Bool} {K : PySem.W.Frag} (c : SaysF P fa fn er ex K) (i : Nat) {d : He.DefD} (h : fn[i]? = some d := by rfl) : ∃ fd, FunD K d.name d.qual d.params d.body d.scope (d.dvs K) (d.kws K) (He.fAd K d.at_) fd :=
  let ⟨a, b⟩ := c.def_ d (List.mem_of_getElem? h); He.DefD.funD b a
theorem SaysF.at_ {P : Program} {fa : List He.Fa} {fn : List He.DefD} {er : List ErD} {ex : PySem.W.Frag → Bool} {K : PySem.W.Frag} (c : SaysF P fa fn er ex K) (i : Nat) {f : He.Fa} (h : fa[i]? = some f := by rfl) : f.ok K = true := c.fact f (List.mem_of_getElem? h)
theorem SaysF.err_ {P : Program} {fa : List He.Fa} {fn : List He.DefD} {er : List ErD} {ex : PySem.W.Frag → Bool} {K : PySem.W.Frag} {hp : Heap} {mg : Str → Option Value} (c : SaysF P fa fn er ex K) (X : K.In hp) (G : hp.Ns mainGlobals mg) (i : Nat) {e : ErD} (h : er[i]? = some e := by rfl) : ErrC P K mg e.c e.f (He.ga K e.c) (iniA K e.c) :=
  let ⟨a, b⟩ := c.err e (List.mem_of_getElem? h); err_of X G a b
/-- the law, over a head by facts -/
theorem walkG {l : PySem.W.OpenLaw} {n k : Nat} {q : Program} {loose : List Str} {XP : (Str → Option Value) → Heap → Prop} {YP : World → Heap → Prop} {d : DefRec} {x : Str} (hn : l.most = some n) (hn2 : n ≤ sizeLine) (hdf : d.params.defaults = []) (hr : Room k callerA)
    (F : ∀ (w : World) (mg : Str → Option Value) (fa : Addr) (h : Heap), YP w h → h.Ns mainGlobals mg → mg d.name = some (.ref fa) → ∃ (K : PySem.W.Frag) (fd : FuncData) (φ : List D → M D), K.In h ∧ noL K ∧ (∀ c ∈ clsNames, ∀ c' ∈ clsNames, He.ga K c ≠ 0 → He.ga K c = He.ga K c' → c = c') ∧
      (∀ (s : Shared) (u : Value), BindsTo s fd ⟨[u], []⟩ [(x, u)]) ∧ (∀ ns : List Int, ns.length ≤ n → ∃ μ, φ [.scr ns] [] = .ok (.bl true) μ) ∧ ∀ base : Heap, K.In base → base.Ns mainGlobals mg → FnG l.prog w K mg base k fa fd [x] φ) :
    PySem.W.WalkO q loose XP YP l.row.toRowW d [] (fun f vs => PySem.call f vs) := by
  refine Att.attach_call hn hdf fun w s0 s1 mg mb fa o pm cd doc a vs ns G Y ho hd hcd hmg hobj hints hlen hg => ?_
  obtain ⟨K, fd, φ, KX, nl, cn, hb, hφ, hF⟩ := F w mg fa _ Y G.T.g hmg
  exact lawG KX nl cn G.T.g G.T.b G.T.builtins G.T.nolimit hg hobj hints (Nat.le_trans hlen hn2) hr hF hb (hφ ns hlen)
end FL

namespace FL
open PySem L2 PyProof.Rows PySem.Spec
/-! ### defs by their names -/
def CallG (P : Program) (w : World) (K : PySem.W.Frag) (mg : Str → Option Value) (base : Heap) (k : Nat) (x : Str) (ps : List Str) (φ : List D → M D) : Prop :=
  ∃ f fd, FnG P w K mg base k f fd ps φ ∧ mg x = some (.ref f) ∧ PySem.W.keepIn K (.ref f) = true ∧ Binds K fd ps []
def mFn0 (φ : List D → M D) (ms : Env → M (List D)) : EM := fun ρ => (ms ρ).bnd φ
theorem units_of {k : Nat} {A : Around} (hr : Room k A) : A.units + 64 < cLine := by have := hr.un; omega
section
variable {X : Cx} {W : WX} {j k : Nat} {ps : List Str} {φ : List D → M D} {x : Str} {p pos : Pos} {e : Expr} {es : List Expr} {ms : Env → M (List D)}
theorem fe_fn (c : CallG X.prog X.w X.K X.mg X.base j x ps φ) (hr : Room k X.A) (hgd : X.A.guards = some []) (tk : Takes X W) (ha : PA X (e :: es) (tA X.K W ms)) (hg : Gl X x := by rfl) (hj : j ≤ k := by decide) (hdb : (x == ("__debug__" : Str)) = false := by decide)
    (he : starEach (e :: es) X.env = (false, eval e X.env) :: starEach es X.env := by rfl) (hpl : (backTo pos (starEach es X.env)).any (·.1) = false := by rfl) : PE X (.Call (.Name x p) (e :: es) [] pos) (tE X.K W (mFn0 φ ms)) := by
  obtain ⟨f, fd, F, hm, hk, hb⟩ := c
  refine (fe_call (dds := []) (dvs := []) F (hr.mono hj) hgd hg hm hk hb .nil (fun _ => rfl) tk ha hdb he hpl).imp fun σ H Q h => ?_
  have e : mFn φ [] ms = mFn0 φ ms := by
    funext ρ
    unfold mFn mFn0
    simp
  rw [e]
  exact h
theorem fe_fn0 (c : CallG X.prog X.w X.K X.mg X.base j x ps φ) (hr : Room k X.A) (hgd : X.A.guards = some []) (tk : Takes X W) (hg : Gl X x := by rfl) (hj : j ≤ k := by decide) (hdb : (x == ("__debug__" : Str)) = false := by decide) :
    PE X (.Call (.Name x p) [] [] pos) (tE X.K W (mFn0 φ aNil)) := by
  obtain ⟨f, fd, F, hm, hk, hb⟩ := c
  refine (fe_call0 (dds := []) (dvs := []) F (hr.mono hj) hgd hg hm hk hb .nil (fun _ => rfl) tk hdb).imp fun σ H Q h => ?_
  have e : mFn φ [] aNil = mFn0 φ aNil := by
    funext ρ
    unfold mFn mFn0
    simp
  rw [e]
  exact h
end
/-! ### suites -/
/-- return [s, e.f] -/
def sdPair (s : Str) (d : D) : SM := fun _ μ => .ok (.ret (.lst [.str s, d])) μ
/-- return [s, repr(e.f)] -/
def sdRepr (s : Str) (d : D) : SM := fun _ μ => match dRepr μ d with
  | some r => .ok (.ret (.lst [.str s, r])) μ
  | none => .bad
def tsPair (C : Addr) (f s : Str) (i : Nat) : TSx := fun a cls d => tRet (tLst (tCons (tC (.str s)) (tCons (tXF a cls d C f i) tNil)))
def tsRepr (K : PySem.W.Frag) (C : Addr) (f s : Str) (i : Nat) : TSx := fun a cls d => tRet (tLst (tCons (tC (.str s)) (tCons (tCB (rND K (on1 dRepr)) (tCons (tXF a cls d C f i) tNil)) tNil)))
theorem su_pair {K : PySem.W.Frag} {c s : Str} {i : Nat} (hi : True) : SuOk K c (some i) (tsPair (He.ga K c) (excField c) s i) (fun d ρ μ => if i < ρ.length then sdPair s d ρ μ else .bad) := by
  intro a dd T σ H S ρ d v r rs ha hx hv p
  simp only at p
  split at p
  · rename_i hl
    refine xf_read r (ha i rfl (by rw [rs.1]; exact hl)) hx ?_
    refine ⟨by show 2 ≤ sizeLine; decide, fun q hq => ?_⟩
    have g := r.goPut (o := .lst [V.str s, v]) hq
    exact p (S.put q (.lst [.str s, v])) _ _ rfl (r.put hq) g ⟨q, _, rfl, put_self, RepL.cons (d := .str s) rfl (RepL.cons (Rep.go hv g) rfl)⟩
  · exact p.elim
theorem su_repr {K : PySem.W.Frag} {c s : Str} {i : Nat} (hi : True) : SuOk K c (some i) (tsRepr K (He.ga K c) (excField c) s i) (fun d ρ μ => if i < ρ.length then sdRepr s d ρ μ else .bad) := by
  intro a dd T σ H S ρ d v r rs ha hx hv p
  simp only at p
  split at p
  · rename_i hl
    unfold sdRepr at p
    refine xf_read r (ha i rfl (by rw [rs.1]; exact hl)) hx ?_
    cases e : dRepr S.μ d with
    | none => rw [e] at p; exact p.elim
    | some q =>
      rw [e] at p
      refine ⟨S, [d], q, r, RepL.cons hv rfl, e, fun S' H' u eμ r' g' hu => ?_⟩
      refine ⟨by show 2 ≤ sizeLine; decide, fun b hb => ?_⟩
      have g := r'.goPut (o := .lst [V.str s, u]) hb
      exact p (S'.put b (.lst [.str s, u])) _ _ eμ (r'.put hb) (g'.trans g) ⟨b, _, rfl, put_self, RepL.cons (d := .str s) rfl (RepL.cons (Rep.go hu g) rfl)⟩
  · exact p.elim
section
variable {X : Cx} {a : Addr} {oe : Obj} {cls : Value} {d : Option Addr} {pn : List (Addr × Obj)} {n f s : Str} {i j1 j2 : Nat} {C : Addr} {p1 p2 p3 p4 p5 p6 p7 : Pos}
theorem sp_pair (T : XfC X.K C) (hno : PySem.W.findIn X.K (.ref C) f = some none) (hz : Zc cls d oe) (hf : ∃ vs, oe.data = .fields vs) (hi : X.N[i]? = some n) (hl : X.env.scope.names.lookup n = some .local) (hd : (n == ("__debug__" : Str)) = false := by decide) (hcd : (n == ("__classdict__" : Str)) = false := by decide)
    (hb : attributeBase (.Name n p1) f X.env (eval (.Name n p1) X.env) = eval (.Name n p1) X.env := by rfl)
    (h1 : starEach [.Constant (.str s) j1 p3, .Attribute (.Name n p1) f p2] X.env = (false, eval (.Constant (.str s) j1 p3) X.env) :: starEach [.Attribute (.Name n p1) f p2] X.env := by rfl)
    (h2 : starEach [.Attribute (.Name n p1) f p2] X.env = (false, eval (.Attribute (.Name n p1) f p2) X.env) :: starEach [] X.env := by rfl) :
    PSs (X.suite a ((a, oe) :: pn)) [.Return (some (.List [.Constant (.str s) j1 p3, .Attribute (.Name n p1) f p2] p4)) p5] (tsPair C f s i a cls d) :=
  pss_one (ps_ret (pe_lst (pa_cons pe_str (pa_cons (pe_xf T hno hz hf (pe_var (X := X.suite a ((a, oe) :: pn)) hi (.inl hl) hd hcd) hb) pa_nil h2) h1)))
theorem sp_repr (hgd : X.A.guards = some []) (hu : X.A.units + 64 < cLine) (hg : X.env.kindOf "repr" = some .globalImplicit) (hm : X.mg "repr" = none) (T : XfC X.K C) (hno : PySem.W.findIn X.K (.ref C) f = some none) (hz : Zc cls d oe) (hf : ∃ vs, oe.data = .fields vs) (hi : X.N[i]? = some n) (hl : X.env.scope.names.lookup n = some .local) (hd : (n == ("__debug__" : Str)) = false := by decide) (hcd : (n == ("__classdict__" : Str)) = false := by decide)
    (hb : attributeBase (.Name n p1) f X.env (eval (.Name n p1) X.env) = eval (.Name n p1) X.env := by rfl)
    (h1 : starEach [.Constant (.str s) j1 p3, .Call (.Name "repr" p6) [.Attribute (.Name n p1) f p2] [] p7] X.env = (false, eval (.Constant (.str s) j1 p3) X.env) :: starEach [.Call (.Name "repr" p6) [.Attribute (.Name n p1) f p2] [] p7] X.env := by rfl)
    (h2 : starEach [.Call (.Name "repr" p6) [.Attribute (.Name n p1) f p2] [] p7] X.env = (false, eval (.Call (.Name "repr" p6) [.Attribute (.Name n p1) f p2] [] p7) X.env) :: starEach [] X.env := by rfl)
    (h3 : starEach [.Attribute (.Name n p1) f p2] X.env = (false, eval (.Attribute (.Name n p1) f p2) X.env) :: starEach [] X.env := by rfl) (h4 : (backTo p7 (starEach [] X.env)).any (·.1) = false := by rfl) :
    PSs (X.suite a ((a, oe) :: pn)) [.Return (some (.List [.Constant (.str s) j1 p3, .Call (.Name "repr" p6) [.Attribute (.Name n p1) f p2] [] p7] p4)) p5] (tsRepr X.K C f s i a cls d) :=
  pss_one (ps_ret (pe_lst (pa_cons pe_str (pa_cons (pe_callB (X := X.suite a ((a, oe) :: pn)) (cr_repr (X := X.suite a ((a, oe) :: pn)) hgd hu) hg hm PyProof.Rows.Boot.«repr» (pa_cons (pe_xf T hno hz hf (pe_var (X := X.suite a ((a, oe) :: pn)) hi (.inl hl) hd hcd) hb) pa_nil h3) (by decide) (by decide) h3 h4) pa_nil h2) h1)))
end
end FL

namespace FL
open PySem L2 PyProof.Rows PySem.Spec
abbrev CnK (K : PySem.W.Frag) : Prop := ∀ c ∈ clsNames, ∀ c' ∈ clsNames, He.ga K c ≠ 0 → He.ga K c = He.ga K c' → c = c'
def cnB (K : PySem.W.Frag) : Bool := clsNames.all fun c => clsNames.all fun c' => decide (He.ga K c = 0) || (!decide (He.ga K c = He.ga K c') || decide (c = c'))
theorem cnB_ok {K : PySem.W.Frag} (h : cnB K = true) : CnK K := fun c hc c' hc' h0 he => by
  have q := List.all_eq_true.mp (List.all_eq_true.mp h c hc) c' hc'
  simp only [Bool.or_eq_true, Bool.not_eq_true', decide_eq_true_eq, decide_eq_false_iff_not] at q
  rcases q with q | q | q
  · exact absurd q h0
  · exact absurd he q
  · exact q
theorem xf_of {P : Program} {K : PySem.W.Frag} {mg : Str → Option Value} {c f : Str} {C fI : Addr} (T : ErrC P K mg c f C fI) : XfC K C := ⟨T.ga, T.gg, T.exC, T.hd⟩
/-- the same function object -/
theorem fd_same {K : PySem.W.Frag} {x q : Str} {ps : Arguments} {b : List Stmt} {sc : Scope} {dvs : List V} {kws : List (Str × V)} {f : Addr} {fd fd' : FuncData} (F : FunD K x q ps b sc dvs kws f fd) (F' : FunD K x q ps b sc dvs kws f fd') : fd = fd' := by
  obtain ⟨oc, od, dV, kV, doc, pm, an, cdv, ct, osl, rfl, lk, _⟩ := F.ex
  obtain ⟨oc', od', dV', kV', doc', pm', an', cdv', ct', osl', rfl, lk', _⟩ := F'.ex
  rw [lk] at lk'
  have e := Option.some.inj lk'
  injection e with e1 e2 e3 e4
  injection e3
/-! ### {} -/
def mDct0 : EM := fun _ μ => .ok (.dct []) μ
theorem fe_dct0 {X : Cx} {W : WX} {pos : Pos} : PE X (.Dict [] [] pos) (tE X.K W mDct0) :=
  pe_dnewK.imp fun σ H Q ⟨S, ρ, r, rs, p⟩ q hq => p (S.put q (.dK [])) _ _ rfl (r.put hq) (r.goPut hq) ⟨q, [], rfl, put_self, rfl⟩
end FL

namespace FL
open PySem L2 PyProof.Rows PySem.Spec
/-! ### what the words do, for simp -/
def selB {α : Type} (o : Option Bool) (p q : Res α) : Res α := match o with
  | some x => if x = true then p else q
  | none => .bad
section
variable {α β : Type} {ρ : Env} {μ : Store} {a b : SM} {m ma mb mc mo mi me : EM} {ms : Env → M (List D)} {ta tb : Env → M Bool} {f g : Store → D → D → Option D} {i n : Nat} {N : List Str} {ds : List D} {d : D} {c : Str} {t : TgD}
@[simp] theorem x_ret {x : α} : (M.ret x : M α) μ = .ok x μ := rfl
theorem x_bnd {x : M α} {k : α → M β} : M.bnd x k μ = (match x μ with
  | .ok a μ' => k a μ'
  | .exc c d μ' => .exc c d μ'
  | .bad => .bad) := rfl
@[simp] theorem x_bnd' {x : M α} {k : α → M β} : M.bnd x k μ = (match x μ with
  | .ok a μ' => k a μ'
  | .exc c d μ' => .exc c d μ'
  | .bad => .bad) := rfl
@[simp] theorem x_then {x : M α} {k : α → Store → SRes} : thenS x ρ k μ = (match x μ with
  | .ok d μ' => k d μ'
  | .exc c d μ' => .exc c d ρ μ'
  | .bad => .bad) := rfl
@[simp] theorem x_var : mVar i ρ μ = (match ρ[i]? with
  | some (some d) => .ok d μ
  | _ => .bad) := rfl
@[simp] theorem x_iteok {p : Prop} [Decidable p] {x y : α} : (if p then Res.ok x μ else Res.ok y μ) = Res.ok (if p then x else y) μ := by split <;> rfl
@[simp] theorem x_itebl {p : Prop} [Decidable p] {x y : Bool} : (if p then D.bl x else D.bl y) = D.bl (if p then x else y) := by split <;> rfl
@[simp] theorem x_c : mC d ρ μ = .ok d μ := rfl
@[simp] theorem x_ofO_some {x : α} : ofO (some x) μ = .ok x μ := rfl
@[simp] theorem x_seq : sSeq a b ρ μ = (match a ρ μ with
  | .ok (.next ρ') μ' => b ρ' μ'
  | r => r) := rfl
@[simp] theorem x_set : sSet i m ρ μ = thenS (m ρ) ρ (fun d μ => .ok (.next (ρ.set i (some d))) μ) μ := rfl
@[simp] theorem x_sret : sRet m ρ μ = thenS (m ρ) ρ (fun d μ => .ok (.ret d) μ) μ := rfl
@[simp] theorem x_sretN : sRetN ρ μ = .ok (.ret .non) μ := rfl
@[simp] theorem x_expr : sExpr m ρ μ = thenS (m ρ) ρ (fun _ μ => .ok (.next ρ) μ) μ := rfl
@[simp] theorem x_if : sIf ta a b ρ μ = thenS (ta ρ) ρ (fun c μ => if c = true then a ρ μ else b ρ μ) μ := rfl
@[simp] theorem x_next : sNext ρ μ = .ok (.next ρ) μ := rfl
@[simp] theorem x_brk : sBrk ρ μ = .ok (.brk ρ) μ := rfl
@[simp] theorem x_cont : sCont ρ μ = .ok (.cont ρ) μ := rfl
@[simp] theorem x_raise : sRaise c m ρ μ = thenS (m ρ) ρ (fun d μ => .exc c d ρ μ) μ := rfl
@[simp] theorem x_setIx : sSetIx mo mi me ρ μ = thenS (me ρ) ρ (fun v => thenS (mo ρ) ρ fun o => thenS (mi ρ) ρ fun i μ => match setCell μ o i v with
  | some μ' => .ok (.next ρ) μ'
  | none => .bad) μ := rfl
@[simp] theorem x_op : mOp f ma mb ρ μ = M.bnd (ma ρ) (fun x => (mb ρ).bnd fun y μ => match f μ x y with
  | some d => .ok d μ
  | none => .bad) μ := rfl
@[simp] theorem x_call {f : Store → List D → Option D} : mCall f ms ρ μ = M.bnd (ms ρ) (fun ds μ => match f μ ds with
  | some d => .ok d μ
  | none => .bad) μ := rfl
@[simp] theorem x_on1 {f : Store → D → Option D} {x : D} : on1 f μ [x] = f μ x := rfl
@[simp] theorem x_on2 {x y : D} : on2 f μ [x, y] = f μ x y := rfl
@[simp] theorem x_aNil : aNil ρ μ = .ok [] μ := rfl
@[simp] theorem x_aCons : aCons m ms ρ μ = M.bnd (m ρ) (fun d => (ms ρ).bnd fun ds => M.ret (d :: ds)) μ := rfl
@[simp] theorem x_lst : mLst ms ρ μ = M.bnd (ms ρ) (fun ds μ => if ds.length ≤ sizeLine then .ok (.lst ds) μ else .bad) μ := rfl
@[simp] theorem x_lstC : mLstC ms ρ μ = M.bnd (ms ρ) (fun ds μ => if ds.length ≤ sizeLine then .ok (.obj μ.length) (μ ++ [.lst ds]) else .bad) μ := rfl
@[simp] theorem x_tup : mTup ms ρ μ = M.bnd (ms ρ) (fun ds μ => if ds.length ≤ sizeLine then .ok (.tup ds) μ else .bad) μ := rfl
@[simp] theorem x_b : mB m ρ μ = M.bnd (m ρ) (fun d => ofO (asB d)) μ := rfl
@[simp] theorem x_bAnd : bAnd ta tb ρ μ = M.bnd (ta ρ) (fun c μ => if c = true then tb ρ μ else .ok false μ) μ := by
  unfold bAnd M.bnd
  cases ta ρ μ with
  | ok c μ' => cases c <;> rfl
  | exc c d μ' => rfl
  | bad => rfl
@[simp] theorem x_bOr : bOr ta tb ρ μ = M.bnd (ta ρ) (fun c μ => if c = true then .ok true μ else tb ρ μ) μ := by
  unfold bOr M.bnd
  cases ta ρ μ with
  | ok c μ' => cases c <;> rfl
  | exc c d μ' => rfl
  | bad => rfl
@[simp] theorem x_bNot : bNot ta ρ μ = M.bnd (ta ρ) (fun c => M.ret (!c)) μ := rfl
@[simp] theorem x_sel {x : Bool} {p q : Res α} : selB (some x) p q = if x = true then p else q := rfl
@[simp] theorem x_and : mAnd ma mb ρ μ = M.bnd (ma ρ) (fun d μ => selB (asB d) (mb ρ μ) (.ok (.bl false) μ)) μ := by
  unfold mAnd M.bnd
  cases ma ρ μ with
  | ok d μ' => simp only; cases asB d with
    | none => rfl
    | some x => cases x <;> rfl
  | exc c d μ' => rfl
  | bad => rfl
@[simp] theorem x_or : mOr ma mb ρ μ = M.bnd (ma ρ) (fun d μ => selB (asB d) (.ok (.bl true) μ) (mb ρ μ)) μ := by
  unfold mOr M.bnd
  cases ma ρ μ with
  | ok d μ' => simp only; cases asB d with
    | none => rfl
    | some x => cases x <;> rfl
  | exc c d μ' => rfl
  | bad => rfl
@[simp] theorem x_not : mNot m ρ μ = M.bnd (m ρ) (fun d => ofO ((asB d).map fun c => .bl (!c))) μ := by
  unfold mNot M.bnd
  cases m ρ μ with
  | ok d μ' => simp only; cases asB d with
    | none => rfl
    | some x => cases x <;> rfl
  | exc c d μ' => rfl
  | bad => rfl
@[simp] theorem x_mif : mIf ta ma mb ρ μ = M.bnd (ta ρ) (fun c μ => if c = true then ma ρ μ else mb ρ μ) μ := by
  unfold mIf M.bnd
  cases ta ρ μ with
  | ok c μ' => cases c <;> rfl
  | exc c d μ' => rfl
  | bad => rfl
@[simp] theorem x_chain : mChain f g ma mb mc ρ μ = M.bnd (ma ρ) (fun x => (mb ρ).bnd fun y μ => selB ((f μ x y).bind asB) ((mc ρ).bnd (fun z μ => match g μ y z with
    | some d => .ok d μ
    | none => .bad) μ) (.ok (.bl false) μ)) μ := by
  unfold mChain M.bnd
  cases ma ρ μ with
  | ok x μ' =>
    simp only
    cases mb ρ μ' with
    | ok y μ2 =>
      simp only
      cases f μ2 x y with
      | none => rfl
      | some d =>
        cases d with
        | bl b => cases b <;> rfl
        | _ => rfl
    | exc c d μ2 => rfl
    | bad => rfl
  | exc c d μ' => rfl
  | bad => rfl
@[simp] theorem x_sl {lo hi : Env → M (Option Int)} : mSl m lo hi ρ μ = M.bnd (m ρ) (fun x => (lo ρ).bnd fun l => (hi ρ).bnd fun h μ => match dSl μ x l h with
  | some d => .ok d μ
  | none => .bad) μ := rfl
@[simp] theorem x_oNone : oNone ρ μ = .ok none μ := rfl
@[simp] theorem x_oSome : oSome m ρ μ = M.bnd (m ρ) (fun d => ofO ((asI d).map some)) μ := rfl
@[simp] theorem x_fn0 {φ : List D → M D} : mFn0 φ ms ρ μ = M.bnd (ms ρ) φ μ := rfl
@[simp] theorem x_iseq : iSeq m ρ μ = M.bnd (m ρ) (fun d => ofO (itemsD d)) μ := rfl
@[simp] theorem x_iargs {f : List D → Option (List D)} : iArgs f ms ρ μ = M.bnd (ms ρ) (fun ds => ofO (f ds)) μ := rfl
@[simp] theorem x_is {cls : List Str} {t : Kd} : mIs cls t m ρ μ = M.bnd (m ρ) (fun d μ => match kdD μ d with
  | some k => if (k.okB cls && t.okB cls) = true then .ok (.bl (subKB k t)) μ else .bad
  | none => .bad) μ := rfl
@[simp] theorem x_m1 : mM1 f ma mb ρ μ = M.bnd (ma ρ) (fun x μ => match asS x with
  | some _ => (mb ρ).bnd (fun y μ => match f μ x y with
    | some d => .ok d μ
    | none => .bad) μ
  | none => .bad) μ := rfl
@[simp] theorem x_dct0 : mDct0 ρ μ = .ok (.dct []) μ := rfl
@[simp] theorem x_app : mApp mo me ρ μ = M.bnd (mo ρ) (fun o μ => match asL μ o with
  | some _ => (me ρ).bnd (fun v μ => match appCell μ o v with
    | some μ' => .ok .non μ'
    | none => .bad) μ
  | none => .bad) μ := rfl
@[simp] theorem x_fmt : mFmt m ρ μ = M.bnd (m ρ) (fun d μ => match d with
  | .str y => if y.length ≤ sizeLine then .ok (.str y) μ else .bad
  | .int i => if i.natAbs.log2 < 1920 then .ok (.str (toString i)) μ else .bad
  | _ => .bad) μ := rfl
@[simp] theorem x_joined {l : List EM} : mJoined l ρ μ = M.bnd (mJs l Str.empty ρ) (fun z => M.ret (.str z)) μ := rfl
@[simp] theorem x_js_nil {acc : Str} : mJs [] acc ρ μ = .ok acc μ := rfl
@[simp] theorem x_js {l : List EM} {acc : Str} : mJs (m :: l) acc ρ μ = M.bnd (m ρ) (fun d μ => match asS d with
  | some y => if (acc ++ y).length ≤ sizeLine then mJs l (acc ++ y) ρ μ else .bad
  | none => .bad) μ := rfl
@[simp] theorem x_for {mi : Env → M (List D)} : sFor mi t b ρ μ = thenS (mi ρ) ρ (fun ds μ => forS t b ds ρ μ) μ := rfl
@[simp] theorem x_comp {mi : Env → M (List D)} {vs : List Nat} {c : Env → M Bool} {e : EM} : mComp mi vs t c e ρ μ = M.bnd (mi ρ) (fun ds μ => if ds.length ≤ sizeLine then ((noX (compL t c e (wipeD ρ vs) ds)).bnd fun ys => M.ret (.lst ys)) μ else .bad) μ := by
  unfold mComp M.bnd
  cases mi ρ μ with
  | ok ds μ' =>
    simp only
    by_cases h : ds.length ≤ sizeLine
    · rw [if_pos h, if_pos h]
    · rw [if_neg h, if_neg h]
      rfl
  | exc c d μ' => rfl
  | bad => rfl
@[simp] theorem x_try {known : List Str} {cl : List ClD} : sTry known b cl ρ μ = (match b ρ μ with
  | .exc c d ρ' μ' => if c ∈ known then runC c d cl ρ' μ' else .bad
  | r => r) := rfl
@[simp] theorem x_yes : cYes ρ μ = .ok true μ := rfl
@[simp] theorem x_tname : tName i d ρ = some (ρ.set i (some d)) := rfl
@[simp] theorem x_ttup {is : List Nat} : tTuple is (.tup ds) ρ = setAllD is ds ρ := rfl
@[simp] theorem x_sa_nil : setAllD [] [] ρ = some ρ := rfl
@[simp] theorem x_sa {is : List Nat} : setAllD (i :: is) (d :: ds) ρ = setAllD is ds (ρ.set i (some d)) := rfl
@[simp] theorem x_w_nil : wipeD ρ [] = ρ := rfl
@[simp] theorem x_w {vs : List Nat} : wipeD ρ (i :: vs) = (wipeD ρ vs).set i none := rfl
@[simp] theorem x_body : bodyF n N b ds μ = (if ds.length = n then (match b (startD N ds) μ with
  | .ok (.next _) μ' => .ok .non μ'
  | .ok (.ret d) μ' => .ok d μ'
  | .ok _ _ => .bad
  | .exc c d _ μ' => .exc c d μ'
  | .bad => .bad) else .bad) := rfl
@[simp] theorem x_start : startD N ds = ds.map some ++ List.replicate (N.length - ds.length) none := rfl
@[simp] theorem x_asB {x : Bool} : asB (.bl x) = some x := rfl
@[simp] theorem x_asI {x : Int} : asI (.int x) = some x := rfl
@[simp] theorem x_asS {x : Str} : asS (.str x) = some x := rfl
@[simp] theorem x_asL {l : List D} : asL μ (.lst l) = some l := rfl
@[simp] theorem x_asLo : asL μ (.obj n) = cellL μ n := rfl
@[simp] theorem x_asLR {l : List D} : asLR μ (.lst l) = some l := rfl
@[simp] theorem x_asLRo : asLR μ (.obj n) = cellL μ n := rfl
@[simp] theorem x_asLRs {l : List Int} : asLR μ (.scr l) = some (l.map D.int) := rfl
@[simp] theorem x_add {x y : Int} : dAdd μ (.int x) (.int y) = some (.int (x + y)) := rfl
@[simp] theorem x_sub {x y : Int} : dSub μ (.int x) (.int y) = some (.int (x - y)) := rfl
@[simp] theorem x_adds {x y : Str} : dAdd μ (.str x) (.str y) = if x.length + y.length ≤ sizeLine then some (.str (x ++ y)) else none := rfl
@[simp] theorem x_addt {x y : List D} : dAdd μ (.tup x) (.tup y) = if x.length + y.length ≤ sizeLine then some (.tup (x ++ y)) else none := rfl
@[simp] theorem x_addl {x y : List D} : dAdd μ (.lst x) (.lst y) = if x.length + y.length ≤ sizeLine then some (.lst (x ++ y)) else none := rfl
@[simp] theorem x_mul {x y : Int} : dMul μ (.int x) (.int y) = if small64 x || small64 y then some (.int (x * y)) else none := rfl
@[simp] theorem x_mod {x y : Int} : dMod μ (.int x) (.int y) = if 0 < y then some (.int (x % y)) else none := rfl
@[simp] theorem x_fdiv {x y : Int} : dFdiv μ (.int x) (.int y) = if decide (0 < y) && decide (y < 1073741824) then some (.int (x / y)) else none := rfl
@[simp] theorem x_pow {x y : Int} : dPow μ (.int x) (.int y) = if decide (0 ≤ y) && decide (y ≤ 1000000) && decide (x.natAbs < 2 ^ 64) then some (.int (x ^ y.toNat)) else none := rfl
@[simp] theorem x_lt {x y : Int} : dLt μ (.int x) (.int y) = some (.bl (decide (x < y))) := rfl
@[simp] theorem x_le {x y : Int} : dLe μ (.int x) (.int y) = some (.bl (decide (x ≤ y))) := rfl
@[simp] theorem x_gt {x y : Int} : dGt μ (.int x) (.int y) = some (.bl (decide (y < x))) := rfl
@[simp] theorem x_ge {x y : Int} : dGe μ (.int x) (.int y) = some (.bl (decide (y ≤ x))) := rfl
@[simp] theorem x_lts {x y : Str} : dLt μ (.str x) (.str y) = some (.bl (decide (x.cps.toList < y.cps.toList))) := rfl
@[simp] theorem x_int {x : Int} : dInt μ (.int x) = some (.int x) := rfl
@[simp] theorem x_intb {x : Bool} : dInt μ (.bl x) = some (.int (if x then 1 else 0)) := rfl
@[simp] theorem x_abs {x : Int} : dAbs μ (.int x) = some (.int (if x < 0 then -x else x)) := rfl
@[simp] theorem x_max {x y : Int} : dMax2 μ (.int x) (.int y) = some (.int (if y > x then y else x)) := rfl
@[simp] theorem x_min {x y : Int} : dMin2 μ (.int x) (.int y) = some (.int (if y < x then y else x)) := rfl
@[simp] theorem x_lens {x : Str} : dLen μ (.str x) = if x.length ≤ sizeLine then some (.int x.length) else none := rfl
@[simp] theorem x_lent : dLen μ (.tup ds) = some (.int ds.length) := rfl
@[simp] theorem x_lenl : dLen μ (.lst ds) = some (.int ds.length) := rfl
@[simp] theorem x_lenscr {l : List Int} : dLen μ (.scr l) = some (.int l.length) := by
  show some (D.int ((l.map D.int).length : Nat)) = _
  simp
@[simp] theorem x_it_l : itemsD (.lst ds) = some ds := rfl
@[simp] theorem x_it_t : itemsD (.tup ds) = some ds := rfl
@[simp] theorem x_it_s {x : Str} : itemsD (.str x) = some (chrs x) := rfl
@[simp] theorem x_tupt : dTuple μ (.tup ds) = some (.tup ds) := rfl
@[simp] theorem x_tupl : dTuple μ (.lst ds) = some (.tup ds) := rfl
@[simp] theorem x_lisl : dList2 μ (.lst ds) = some (.lst ds) := rfl
@[simp] theorem x_list : dList2 μ (.tup ds) = some (.lst ds) := rfl
@[simp] theorem x_liss {x : Str} : dList2 μ (.str x) = if x.cps.size ≤ sizeLine then some (.lst (chrs x)) else none := rfl
@[simp] theorem x_ixt {x : List D} {k : Int} : dIx μ (.tup x) (.int k) = atI x k := rfl
@[simp] theorem x_ixl {x : List D} {k : Int} : dIx μ (.lst x) (.int k) = atI x k := rfl
@[simp] theorem x_ixo {k : Int} : dIx μ (.obj n) (.int k) = (match cellL μ n with
  | some ds => atI ds k
  | none => none) := rfl
@[simp] theorem x_ixscr {l : List Int} {k : Int} : dIx μ (.scr l) (.int k) = atI (l.map D.int) k := rfl
@[simp] theorem x_ixs {x : Str} {k : Int} : dIx μ (.str x) (.int k) = if x.length ≤ sizeLine then (atI x.cps.toList k).map (fun c => .str ⟨#[c]⟩) else none := rfl
@[simp] theorem x_slt {lo hi : Option Int} : dSl μ (.tup ds) lo hi = some (.tup (cutD ds lo hi)) := rfl
@[simp] theorem x_sll {lo hi : Option Int} : dSl μ (.lst ds) lo hi = some (.lst (cutD ds lo hi)) := rfl
@[simp] theorem x_slscr {l : List Int} {lo hi : Option Int} : dSl μ (.scr l) lo hi = some (.lst (cutD (l.map D.int) lo hi)) := rfl
@[simp] theorem x_sls {x : Str} {lo hi : Option Int} : dSl μ (.str x) lo hi = if x.length ≤ sizeLine then some (.str (cutS x lo hi)) else none := rfl
@[simp] theorem x_isn : dIsN μ d .non = some (.bl (isNonB d)) := rfl
@[simp] theorem x_notn : dNotN μ d .non = some (.bl (!isNonB d)) := rfl
@[simp] theorem x_eq : dEq μ d d' = (dEqB μ 30 d d').map .bl := rfl
@[simp] theorem x_ne : dNe μ d d' = (dEqB μ 30 d d').map fun b => .bl (!b) := rfl
@[simp] theorem x_in : dIn μ d d' = (dInB μ d d').map .bl := rfl
@[simp] theorem x_nin : dNotIn μ d d' = (dInB μ d d').map fun b => .bl (!b) := rfl
@[simp] theorem x_runnil : runC c d [] ρ μ = .exc c d ρ μ := rfl
@[simp] theorem x_run {q : ClD} {r : List ClD} : runC c d (q :: r) ρ μ = if c = q.c then endD q.i (q.sd d (unsetO ρ q.i) μ) else runC c d r ρ μ := rfl
@[simp] theorem x_un_n : unsetO ρ none = ρ := rfl
@[simp] theorem x_un : unsetO ρ (some i) = ρ.set i none := rfl
@[simp] theorem x_endr {o : Option Nat} : endD o (.ok (.ret d) μ) = .ok (.ret d) μ := rfl
@[simp] theorem x_sdp {s : Str} : sdPair s d ρ μ = .ok (.ret (.lst [.str s, d])) μ := rfl
end
/-! ### loops and comprehensions -/
theorem forS_inv {t : TgD} {b : SM} (Inv : Env → Store → Prop) : ∀ (ds : List D) (ρ : Env) (μ : Store), Inv ρ μ → (∀ d ∈ ds, ∀ ρ μ, Inv ρ μ → ∃ ρ1, t d ρ = some ρ1 ∧ ∃ ρ2 μ2, (b ρ1 μ = .ok (.next ρ2) μ2 ∨ b ρ1 μ = .ok (.cont ρ2) μ2) ∧ Inv ρ2 μ2) →
    ∃ ρ2 μ2, forS t b ds ρ μ = .ok (.next ρ2) μ2 ∧ Inv ρ2 μ2
  | [], ρ, μ, h, _ => ⟨ρ, μ, rfl, h⟩
  | d :: ds, ρ, μ, h, k => by
    obtain ⟨ρ1, e1, ρ2, μ2, e2, h2⟩ := k d List.mem_cons_self ρ μ h
    obtain ⟨ρ3, μ3, e3, h3⟩ := forS_inv Inv ds ρ2 μ2 h2 fun d hd => k d (.tail _ hd)
    refine ⟨ρ3, μ3, ?_, h3⟩
    unfold forS
    rw [e1]
    simp only
    rcases e2 with e2 | e2 <;> rw [e2] <;> exact e3
theorem noX_ok {α : Type} {m : M α} {x : α} {μ μ' : Store} (h : m μ = .ok x μ') : noX m μ = .ok x μ' := by unfold noX; rw [h]
/-- a comprehension that leaves the store as it is -/
theorem compL_pure {t : TgD} {c : Env → M Bool} {e : EM} {ρ : Env} {μ : Store} (p : D → Bool) (g : D → D) : ∀ ds : List D, (∀ d ∈ ds, ∃ ρ1, t d ρ = some ρ1 ∧ c ρ1 μ = .ok (p d) μ ∧ (p d = true → e ρ1 μ = .ok (g d) μ)) → compL t c e ρ ds μ = .ok ((ds.filter p).map g) μ
  | [], _ => rfl
  | d :: ds, k => by
    obtain ⟨ρ1, e1, e2, e3⟩ := k d List.mem_cons_self
    have ih := compL_pure p g ds fun d hd => k d (.tail _ hd)
    unfold compL
    rw [e1]
    simp only [x_bnd, noX_ok e2]
    by_cases hp : p d = true
    · rw [if_pos hp, List.filter_cons_of_pos hp]
      simp only [x_bnd, noX_ok (e3 hp), ih]
      rfl
    · rw [if_neg hp, List.filter_cons_of_neg hp]
      exact ih
theorem compL_map {t : TgD} {e : EM} {ρ : Env} {μ : Store} (g : D → D) (ds : List D) (h : ∀ d ∈ ds, ∃ ρ1, t d ρ = some ρ1 ∧ e ρ1 μ = .ok (g d) μ) : compL t cYes e ρ ds μ = .ok (ds.map g) μ := by
  have := compL_pure (t := t) (c := cYes) (e := e) (ρ := ρ) (μ := μ) (fun _ => true) g ds fun d hd => by
    obtain ⟨ρ1, h1, h2⟩ := h d hd
    exact ⟨ρ1, h1, rfl, fun _ => h2⟩
  rw [this, List.filter_eq_self.mpr (fun _ _ => rfl)]
theorem compL_of {α : Type} {t : TgD} {c : Env → M Bool} {e : EM} {ρ : Env} {μ : Store} (f g : α → D) (p : α → Bool) : ∀ l : List α, (∀ a ∈ l, ∃ ρ1, t (f a) ρ = some ρ1 ∧ c ρ1 μ = .ok (p a) μ ∧ (p a = true → e ρ1 μ = .ok (g a) μ)) → compL t c e ρ (l.map f) μ = .ok ((l.filter p).map g) μ
  | [], _ => rfl
  | d :: ds, k => by
    obtain ⟨ρ1, e1, e2, e3⟩ := k d List.mem_cons_self
    have ih := compL_of f g p ds fun d hd => k d (.tail _ hd)
    rw [List.map_cons]
    unfold compL
    rw [e1]
    simp only [x_bnd, noX_ok e2]
    by_cases hp : p d = true
    · rw [if_pos hp, List.filter_cons_of_pos hp]
      simp only [x_bnd, noX_ok (e3 hp), ih]
      rfl
    · rw [if_neg hp, List.filter_cons_of_neg hp]
      exact ih
theorem compL_ofAll {α : Type} {t : TgD} {e : EM} {ρ : Env} {μ : Store} (f g : α → D) (l : List α) (h : ∀ a ∈ l, ∃ ρ1, t (f a) ρ = some ρ1 ∧ e ρ1 μ = .ok (g a) μ) : compL t cYes e ρ (l.map f) μ = .ok (l.map g) μ := by
  have := compL_of (t := t) (c := cYes) (e := e) (ρ := ρ) (μ := μ) f g (fun _ => true) l fun d hd => by
    obtain ⟨ρ1, h1, h2⟩ := h d hd
    exact ⟨ρ1, h1, rfl, fun _ => h2⟩
  rw [this, List.filter_eq_self.mpr (fun _ _ => rfl)]
theorem seqO_of {α β : Type} {f : D → Option α} {h : β → D} {g : β → α} (k : ∀ b, f (h b) = some (g b)) : ∀ l : List β, seqO ((l.map h).map f) = some (l.map g)
  | [] => rfl
  | x :: l => by
    simp only [List.map_cons, k, seqO]
    rw [seqO_of k l]
@[simp] theorem asBls_of {β : Type} {g : β → Bool} {l : List β} : asBls (l.map fun x => D.bl (g x)) = some (l.map g) := seqO_of (f := asB) (h := fun x => D.bl (g x)) (fun _ => rfl) l
@[simp] theorem asInts_of {β : Type} {g : β → Int} {l : List β} : asInts (l.map fun x => D.int (g x)) = some (l.map g) := seqO_of (f := asI) (h := fun x => D.int (g x)) (fun _ => rfl) l
@[simp] theorem asStrs_of {β : Type} {g : β → Str} {l : List β} : asStrs (l.map fun x => D.str (g x)) = some (l.map g) := seqO_of (f := asS) (h := fun x => D.str (g x)) (fun _ => rfl) l
@[simp] theorem asStrs_chrs {z : Str} : asStrs (chrs z) = some (z.cps.toList.map fun c => ⟨#[c]⟩) := seqO_of (f := asS) (h := fun c => D.str ⟨#[c]⟩) (fun _ => rfl) _
@[simp] theorem x_noX {α : Type} {m : M α} {μ : Store} : noX m μ = (match m μ with
  | .ok a μ' => .ok a μ'
  | _ => .bad) := rfl
@[simp] theorem x_all {μ : Store} {ds : List D} : dAll μ (.lst ds) = (asBls ds).map fun ns => .bl (ns.all id) := rfl
@[simp] theorem x_any {μ : Store} {ds : List D} : dAny μ (.lst ds) = (asBls ds).map fun ns => .bl (ns.any id) := rfl
@[simp] theorem x_kds {μ : Store} {z : Str} : kdD μ (.str z) = some (.ty "str") := rfl
@[simp] theorem x_kdn {μ : Store} : kdD μ .non = some (.ty "NoneType") := rfl
@[simp] theorem x_kdb {μ : Store} {b : Bool} : kdD μ (.bl b) = some (.ty "bool") := rfl
@[simp] theorem x_kdi {μ : Store} {b : Int} : kdD μ (.int b) = some (.ty "int") := rfl
@[simp] theorem x_kdt {μ : Store} {b : List D} : kdD μ (.tup b) = some (.ty "tuple") := rfl
@[simp] theorem x_kdl {μ : Store} {b : List D} : kdD μ (.lst b) = some (.ty "list") := rfl
@[simp] theorem x_kdd {μ : Store} {b : List (Key × D)} : kdD μ (.dct b) = some (.ty "dict") := rfl
@[simp] theorem x_okty {cls : List Str} {n : String} : Kd.okB cls (.ty n) = bTys.contains n := rfl
@[simp] theorem x_subty {x y : String} : subKB (.ty x) (.ty y) = (x == y || (x == "bool" && y == "int")) := rfl
theorem inStr_one (c : Nat) (x : Str) : inStr ⟨#[c]⟩ x = decide (c ∈ x.cps.toList) := PySem.StrLaws.found_one x c
@[simp] theorem x_instr {μ : Store} {a b : Str} : dInB μ (.str a) (.str b) = some (inStr a b) := rfl
theorem big (n : Nat) (h : n ≤ 16777216) : n ≤ sizeLine := by rw [sizeLine_eq]; exact h
/-- one that draws -/
theorem compL_inv {t : TgD} {e : EM} {ρ : Env} (Inv : Store → Prop) (Q : D → Prop) : ∀ (ds : List D) (μ : Store), Inv μ → (∀ d ∈ ds, ∀ μ, Inv μ → ∃ ρ1, t d ρ = some ρ1 ∧ ∃ y μ2, e ρ1 μ = .ok y μ2 ∧ Inv μ2 ∧ Q y) → ∃ ys μ2, compL t cYes e ρ ds μ = .ok ys μ2 ∧ Inv μ2 ∧ ys.length = ds.length ∧ ∀ y ∈ ys, Q y
  | [], μ, h, _ => ⟨[], μ, rfl, h, rfl, fun _ h => nomatch h⟩
  | d :: ds, μ, h, k => by
    obtain ⟨ρ1, e1, y, μ2, e2, h2, hq⟩ := k d List.mem_cons_self μ h
    obtain ⟨ys, μ3, e3, h3, hl, hy⟩ := compL_inv Inv Q ds μ2 h2 fun d hd => k d (.tail _ hd)
    refine ⟨y :: ys, μ3, ?_, h3, by simp [hl], fun z hz => ?_⟩
    · unfold compL
      rw [e1]
      simp [noX, e2, e3]
    · rcases List.mem_cons.mp hz with rfl | hz
      · exact hq
      · exact hy z hz

/-! ### the pool and the draws -/
def bPool : SM := (sSeq (sSet 2 (mOp dAdd (mOp dMul (mC (.int 11)) (mCall (on1 dSum) (aCons (mSl (mVar 0) oNone (oSome (mC (.int 63)))) aNil))) (mVar 1)))
  (sSeq (sIf (mB (mOp dLt (mVar 1) (mCall (on1 dLen) (aCons (mVar 0) aNil)))) (sSet 2 (mOp dIx (mVar 0) (mVar 1))) sNext)
  (sSeq (sSet 3 (mCall (on1 dAbs) (aCons (mCall (on1 dInt) (aCons (mVar 2) aNil)) aNil)))
  (sSeq (sSet 4 (mOp dMod (mCall (on1 dInt) (aCons (mVar 3) aNil)) (mC (.int 2147483629))))
  (sSeq (sSet 5 (mOp dMod (mCall (on1 dInt) (aCons (mOp dMul (mOp dAdd (mOp dAdd (mOp dAdd (mVar 4) (mOp dMul (mOp dMul (mC (.int 7919)) (mVar 1)) (mVar 1))) (mOp dMul (mC (.int 31)) (mVar 1))) (mC (.int 17))) (mC (.int 48271))) aNil)) (mC (.int 2147483647))))
  (sRet (mLstC (aCons (mOp dMul (mVar 3) (mCall (on1 dInt) (aCons (mOp dGe (mVar 3) (mOp dPow (mC (.int 10)) (mC (.int 18)))) aNil))) (aCons (mOp dMod (mCall (on1 dInt) (aCons (mOp dMul (mVar 5) (mVar 5)) aNil)) (mC (.int 2147483629))) aNil)))))))))
def fPool : List D → M D := bodyF 2 ["_law_script", "_law_k", "_law_cell", "_law_great", "_law_small", "_law_mixed"] bPool
def bDraw : SM := (sSeq (sIf (mB (mOp dGt (mOp dIx (mVar 0) (mC (.int 0))) (mC (.int 0)))) (sSeq (sSet 2 (mOp dMod (mCall (on1 dInt) (aCons (mOp dIx (mVar 0) (mC (.int 0))) aNil)) (mVar 1)))
  (sSeq (sSetIx (mVar 0) (mC (.int 0)) (mOp dFdiv (mOp dIx (mVar 0) (mC (.int 0))) (mVar 1)))
  (sRet (mVar 2)))) sNext)
  (sSeq (sSetIx (mVar 0) (mC (.int 1)) (mOp dMod (mCall (on1 dInt) (aCons (mOp dAdd (mOp dMul (mOp dIx (mVar 0) (mC (.int 1))) (mC (.int 48271))) (mC (.int 11))) aNil)) (mC (.int 2147483647))))
  (sRet (mOp dMod (mCall (on1 dInt) (aCons (mOp dFdiv (mOp dMod (mCall (on1 dInt) (aCons (mOp dMul (mOp dIx (mVar 0) (mC (.int 1))) (mOp dIx (mVar 0) (mC (.int 1)))) aNil)) (mC (.int 2147483629))) (mC (.int 16))) aNil)) (mVar 1)))))
def fDraw : List D → M D := bodyF 2 ["_law_pool_here", "_law_many", "_law_found"] bDraw
/-- a pool: great, the small one -/
def poolC (g l : Int) : Cell := .lst [.int g, .int l]
def PoolAt (n : Nat) (μ : Store) : Prop := ∃ g l, μ[n]? = some (poolC g l) ∧ 0 ≤ l ∧ l < 2147483647
/-- the store behind draws from the pool at n: all else as it was -/
structure Drew (n : Nat) (μ μ' : Store) : Prop where
  len : μ'.length = μ.length
  pool : PoolAt n μ'
  old : ∀ i, i ≠ n → μ'[i]? = μ[i]?
theorem Drew.refl {n : Nat} {μ : Store} (h : PoolAt n μ) : Drew n μ μ := ⟨rfl, h, fun _ _ => rfl⟩
theorem Drew.trans {n : Nat} {a b c : Store} (x : Drew n a b) (y : Drew n b c) : Drew n a c := ⟨y.len.trans x.len, y.pool, fun i h => (y.old i h).trans (x.old i h)⟩
theorem fDraw_ok {μ : Store} {n : Nat} {m : Int} (h : PoolAt n μ) (hm : 0 < m) (hm2 : m < 1073741824) : ∃ (v : Int) (μ' : Store), 0 ≤ v ∧ v < m ∧ Drew n μ μ' ∧ fDraw [.obj n, .int m] μ = .ok (.int v) μ' := by
  obtain ⟨g, l, hg, hl, hl2⟩ := h
  have hn : n < μ.length := (List.getElem?_eq_some_iff.mp hg).1
  have hc : cellL μ n = some [.int g, .int l] := by unfold cellL; rw [hg]; rfl
  have drew : ∀ g' l', 0 ≤ l' → l' < 2147483647 → Drew n μ (μ.set n (poolC g' l')) := fun g' l' h1 h2 => ⟨by simp, ⟨g', l', by rw [List.getElem?_set_self hn], h1, h2⟩, fun i hi => by rw [List.getElem?_set_ne (Ne.symm hi)]⟩
  by_cases h0 : 0 < g
  · refine ⟨g % m, μ.set n (poolC (g / m) l), Int.emod_nonneg _ (by omega), Int.emod_lt_of_pos _ hm, drew _ _ hl hl2, ?_⟩
    simp [fDraw, bDraw, hc, atI, ixN, h0, hm, hm2, setCell, poolC]
  · have h1 := Int.emod_nonneg (l * 48271 + 11) (b := 2147483647) (by decide)
    have h2 := Int.emod_lt_of_pos (l * 48271 + 11) (b := 2147483647) (by decide)
    have hs : small64 ((l * 48271 + 11) % 2147483647) = true := by
      unfold small64
      simp only [Bool.and_eq_true, decide_eq_true_eq]
      omega
    have hs2 : small64 48271 = true := by decide
    refine ⟨(((l * 48271 + 11) % 2147483647) * ((l * 48271 + 11) % 2147483647) % 2147483629 / 16) % m, μ.set n (poolC g ((l * 48271 + 11) % 2147483647)), Int.emod_nonneg _ (by omega), Int.emod_lt_of_pos _ hm, drew _ _ h1 h2, ?_⟩
    have hc2 : cellL (μ.set n (.lst [.int g, .int ((l * 48271 + 11) % 2147483647)])) n = some [.int g, .int ((l * 48271 + 11) % 2147483647)] := by
      unfold cellL
      rw [List.getElem?_set_self hn]
    simp [fDraw, bDraw, hc, hc2, atI, ixN, h0, hm, hm2, setCell, poolC, hs, hs2]
theorem asInts_map : ∀ l : List Int, asInts (l.map D.int) = some l
  | [] => rfl
  | x :: l => by
    have := asInts_map l
    unfold asInts at this ⊢
    simp only [List.map_cons, x_asI, seqO]
    rw [this]
theorem cutD_map {α : Type} {f : α → D} {l : List α} {lo hi : Option Int} : ∃ l' : List α, cutD (l.map f) lo hi = l'.map f := ⟨(l.drop (HT.sIx (l.map f).length 0 lo)).take (HT.sIx (l.map f).length (l.map f).length hi - HT.sIx (l.map f).length 0 lo), by unfold cutD; rw [List.map_take, List.map_drop]⟩
def pA (z : Int) : Int := if z < 0 then -z else z
def pG (z : Int) : Int := pA z * (if 10 ^ 18 ≤ pA z then 1 else 0)
def pM (z k : Int) : Int := ((pA z % 2147483629 + 7919 * k * k + 31 * k + 17) * 48271) % 2147483647
theorem fPool_cell {μ : Store} {ns : List Int} {k : Int} (hk : 0 ≤ k) (hk2 : k < 1000) : ∃ g l, 0 ≤ l ∧ l < 2147483647 ∧ fPool [.scr ns, .int k] μ = .ok (.obj μ.length) (μ ++ [poolC g l]) := by
  obtain ⟨l', hl'⟩ := cutD_map (f := D.int) (l := ns) (lo := none) (hi := some 63)
  have hsum : dSum μ (.lst (cutD (ns.map D.int) none (some 63))) = some (.int l'.sum) := by
    unfold dSum
    simp only [x_asLR, hl', asInts_map]
    rfl
  have s11 : small64 11 = true := by decide
  have sk : small64 k = true := by unfold small64; simp only [Bool.and_eq_true, decide_eq_true_eq]; omega
  have s31 : small64 31 = true := by decide
  have s48 : small64 48271 = true := by decide
  have s79 : small64 7919 = true := by decide
  have h01 : ∀ (p : Prop) [Decidable p], small64 (if p then 1 else 0) = true := fun p _ => by split <;> decide
  have mx : ∀ z : Int, small64 (z % 2147483647) = true := fun z => by
    unfold small64
    simp only [Bool.and_eq_true, decide_eq_true_eq]
    have h1 := Int.emod_nonneg z (b := 2147483647) (by decide)
    have h2 := Int.emod_lt_of_pos z (b := 2147483647) (by decide)
    omega
  have fin : ∀ z : Int, 0 ≤ z % 2147483629 ∧ z % 2147483629 < 2147483647 := fun z => by
    have h1 := Int.emod_nonneg z (b := 2147483629) (by decide)
    have h2 := Int.emod_lt_of_pos z (b := 2147483629) (by decide)
    omega
  have two : (2 : Nat) ≤ sizeLine := by decide
  by_cases hlt : k < ns.length
  · have hix : atI (ns.map D.int) k = some (.int (ns[k.toNat]'(by omega))) := by
      unfold atI ixN
      rw [if_pos hk, if_pos (by simpa using hlt)]
      simp
    refine ⟨pG (ns[k.toNat]'(by omega)), pM (ns[k.toNat]'(by omega)) k * pM (ns[k.toNat]'(by omega)) k % 2147483629, (fin _).1, (fin _).2, ?_⟩
    simp [fPool, bPool, hsum, s11, sk, s31, s48, s79, mx, hlt, hix, poolC, two, h01, pG, pM, pA]
    congr
  · refine ⟨pG (11 * l'.sum + k), pM (11 * l'.sum + k) k * pM (11 * l'.sum + k) k % 2147483629, (fin _).1, (fin _).2, ?_⟩
    simp [fPool, bPool, hsum, s11, sk, s31, s48, s79, mx, hlt, poolC, two, h01, pG, pM, pA]
    congr
theorem fPool_ok {μ : Store} {ns : List Int} {k : Int} (hk : 0 ≤ k) (hk2 : k < 1000) : ∃ μ', fPool [.scr ns, .int k] μ = .ok (.obj μ.length) μ' ∧ PoolAt μ.length μ' ∧ μ'.length = μ.length + 1 ∧ ∀ i, i < μ.length → μ'[i]? = μ[i]? := by
  obtain ⟨g, l, h1, h2, e⟩ := fPool_cell (μ := μ) (ns := ns) hk hk2
  exact ⟨_, e, ⟨g, l, by simp, h1, h2⟩, by simp, fun i hi => by rw [List.getElem?_append_left hi]⟩
end FL

namespace FL
open PySem L2 PyProof.Rows PySem.Spec
/-! ### equality of data -/
mutual
def plainD : Nat → D → Bool
  | 0, _ => false
  | _ + 1, .non => true
  | _ + 1, .bl _ => true
  | _ + 1, .int _ => true
  | _ + 1, .str _ => true
  | n + 1, .lst ds => plainDs n ds
  | n + 1, .tup ds => plainDs n ds
  | _ + 1, _ => false
def plainDs : Nat → List D → Bool
  | _, [] => true
  | n, d :: ds => plainD n d && plainDs n ds
end
mutual
theorem dEqB_refl {μ : Store} : ∀ (n : Nat) (d : D), plainD n d = true → dEqB μ n d d = some true
  | 0, d, h => by unfold plainD at h; cases h
  | n + 1, .non, _ => rfl
  | n + 1, .bl b, _ => by show some (b == b) = _; simp
  | n + 1, .int b, _ => by show some (b == b) = _; simp
  | n + 1, .str b, _ => by show some (b == b) = _; simp
  | n + 1, .lst ds, h => by
    obtain ⟨bs, e, hb⟩ := dEqBs_refl (μ := μ) n ds h
    show (if ds.length = ds.length then (match seqO (List.zipWith (dEqB μ n) ds ds) with
      | some bs => some (bs.all id)
      | none => none) else some false) = _
    rw [if_pos rfl, e]
    simp only [Option.some.injEq]
    rw [List.all_eq_true]
    exact fun b hm => hb b hm
  | n + 1, .tup ds, h => by
    obtain ⟨bs, e, hb⟩ := dEqBs_refl (μ := μ) n ds h
    show (match seqO (List.zipWith (dEqB μ n) ds ds) with
      | some bs => some (bs.all id && ds.length == ds.length)
      | none => none) = _
    rw [e]
    simp only [Option.some.injEq, beq_self_eq_true, Bool.and_true]
    rw [List.all_eq_true]
    exact fun b hm => hb b hm
  | n + 1, .dct _, h => by unfold plainD at h; cases h
  | n + 1, .ins _ _, h => by unfold plainD at h; cases h
  | n + 1, .obj _, h => by unfold plainD at h; cases h
  | n + 1, .scr _, h => by unfold plainD at h; cases h
theorem dEqBs_refl {μ : Store} : ∀ (n : Nat) (ds : List D), plainDs n ds = true → ∃ bs, seqO (List.zipWith (dEqB μ n) ds ds) = some bs ∧ ∀ b ∈ bs, b = true
  | n, [], _ => ⟨[], rfl, fun _ h => nomatch h⟩
  | n, d :: ds, h => by
    obtain ⟨h1, h2⟩ := Bool.and_eq_true_iff.mp (show (plainD n d && plainDs n ds) = true from h)
    obtain ⟨bs, e, hb⟩ := dEqBs_refl (μ := μ) n ds h2
    refine ⟨true :: bs, ?_, fun b hm => ?_⟩
    · rw [List.zipWith_cons_cons, dEqB_refl n d h1]
      unfold seqO
      rw [e]
    · rcases List.mem_cons.mp hm with rfl | hm
      · rfl
      · exact hb b hm
end
theorem dEqB_strs {μ : Store} {n : Nat} : ∀ (xs ys : List Str), seqO (List.zipWith (dEqB μ (n + 1)) (xs.map D.str) (ys.map D.str)) = some (List.zipWith (fun a b => a == b) xs ys)
  | [], _ => rfl
  | _ :: _, [] => rfl
  | x :: xs, y :: ys => by
    rw [List.map_cons, List.map_cons, List.zipWith_cons_cons, List.zipWith_cons_cons]
    show seqO (some (x == y) :: _) = _
    unfold seqO
    rw [dEqB_strs xs ys]
theorem zip_eq_all : ∀ {xs ys : List Str}, xs.length = ys.length → (List.zipWith (fun a b => a == b) xs ys).all id = decide (xs = ys)
  | [], [], _ => by simp
  | [], _ :: _, h => by simp at h
  | _ :: _, [], h => by simp at h
  | x :: xs, y :: ys, h => by
    rw [List.zipWith_cons_cons, List.all_cons, zip_eq_all (by simpa using h)]
    by_cases e : x = y
    · subst e
      simp
    · simp [e]
/-- two lists of texts -/
theorem dEqB_lstr {μ : Store} {n : Nat} {xs ys : List Str} : dEqB μ (n + 2) (.lst (xs.map D.str)) (.lst (ys.map D.str)) = some (decide (xs = ys)) := by
  show (if (xs.map D.str).length = (ys.map D.str).length then (match seqO (List.zipWith (dEqB μ (n + 1)) (xs.map D.str) (ys.map D.str)) with
    | some bs => some (bs.all id)
    | none => none) else some false) = _
  rw [List.length_map, List.length_map]
  by_cases h : xs.length = ys.length
  · rw [if_pos h, dEqB_strs]
    simp only
    rw [zip_eq_all h]
  · rw [if_neg h]
    have : xs ≠ ys := fun e => h (by rw [e])
    simp [this]
/-! ### the keys of dict(pairs) -/
def addK {κ : Type} [DecidableEq κ] (ks : List κ) (k : κ) : List κ := if k ∈ ks then ks else ks ++ [k]
def dedup {κ : Type} [DecidableEq κ] (l : List κ) : List κ := l.foldl addK []
theorem putD_keys (kvs : List (Key × D)) (k : Key) (v : D) : (putD kvs k v).map (·.1) = addK (kvs.map (·.1)) k := by
  unfold putD addK
  by_cases h : k ∈ kvs.map (·.1)
  · have h' : (kvs.any fun kv => decide (kv.1 = k)) = true := by
      rw [List.any_eq_true]
      obtain ⟨q, hq, e⟩ := List.mem_map.mp h
      exact ⟨q, hq, by simpa using e⟩
    rw [if_pos h', if_pos h, List.map_map]
    refine List.map_congr_left fun q _ => ?_
    simp only [Function.comp]
    split <;> rfl
  · have h' : ¬ (kvs.any fun kv => decide (kv.1 = k)) = true := by
      rw [List.any_eq_true]
      rintro ⟨q, hq, e⟩
      exact h (List.mem_map.mpr ⟨q, hq, by simpa using e⟩)
    rw [if_neg h', if_neg h]
    simp
theorem mergeD_keys : ∀ (more kvs : List (Key × D)), (mergeD kvs more).map (·.1) = (more.map (·.1)).foldl addK (kvs.map (·.1))
  | [], _ => rfl
  | q :: more, kvs => by
    show (mergeD (putD kvs q.1 q.2) more).map (·.1) = _
    rw [mergeD_keys more, putD_keys]
    rfl
section
variable {κ : Type} [DecidableEq κ]
theorem addK_mem {ks : List κ} {k x : κ} : x ∈ addK ks k ↔ x ∈ ks ∨ x = k := by
  unfold addK
  split
  · rename_i h
    exact ⟨.inl, fun q => q.elim id fun e => by rw [e]; exact h⟩
  · simp
theorem addK_nodup {ks : List κ} {k : κ} (h : ks.Nodup) : (addK ks k).Nodup := by
  unfold addK
  split
  · exact h
  · rename_i hk
    rw [List.nodup_append]
    exact ⟨h, by simp, fun a ha b hb => by
      have : b = k := by simpa using hb
      subst this
      intro e
      exact hk (by rw [← e]; exact ha)⟩
theorem foldK_nodup : ∀ {l ks : List κ}, ks.Nodup → (l.foldl addK ks).Nodup
  | [], _, h => h
  | _ :: l, _, h => foldK_nodup (l := l) (addK_nodup h)
theorem foldK_mem : ∀ {l ks : List κ} {x : κ}, x ∈ l.foldl addK ks ↔ x ∈ ks ∨ x ∈ l
  | [], ks, x => by simp
  | k :: l, ks, x => by
    rw [List.foldl_cons, foldK_mem, addK_mem, List.mem_cons]
    constructor
    · rintro ((h | h) | h)
      · exact .inl h
      · exact .inr (.inl h)
      · exact .inr (.inr h)
    · rintro (h | h | h)
      · exact .inl (.inl h)
      · exact .inl (.inr h)
      · exact .inr h
theorem foldK_same : ∀ {l ks : List κ}, (ks ++ l).Nodup → l.foldl addK ks = ks ++ l
  | [], ks, _ => by simp
  | k :: l, ks, h => by
    have hk : k ∉ ks := fun hm => by
      rw [List.nodup_append] at h
      exact h.2.2 k hm k (by simp) rfl
    rw [List.foldl_cons]
    have e : addK ks k = ks ++ [k] := by unfold addK; rw [if_neg hk]
    rw [e, foldK_same (by simpa using h)]
    simp
theorem foldK_len : ∀ {l ks : List κ}, (l.foldl addK ks).length ≤ ks.length + l.length
  | [], ks => by simp
  | k :: l, ks => by
    rw [List.foldl_cons]
    have h := foldK_len (l := l) (ks := addK ks k)
    have h2 : (addK ks k).length ≤ ks.length + 1 := by unfold addK; split <;> simp
    rw [List.length_cons]
    omega
theorem dedup_nodup (l : List κ) : (dedup l).Nodup := foldK_nodup (by simp)
theorem dedup_mem {l : List κ} {x : κ} : x ∈ dedup l ↔ x ∈ l := by
  unfold dedup
  rw [foldK_mem]
  simp
theorem dedup_same {l : List κ} (h : l.Nodup) : dedup l = l := by
  unfold dedup
  rw [foldK_same (by simpa using h)]
  simp
end
/-- strictly rising -/
def risB : List Nat → Bool
  | a :: b :: r => decide (a < b) && risB (b :: r)
  | _ => true
theorem risB_pw : ∀ {l : List Nat}, risB l = true → l.Pairwise (· < ·)
  | [], _ => .nil
  | [a], _ => by simp
  | a :: b :: r, h => by
    obtain ⟨h1, h2⟩ := Bool.and_eq_true_iff.mp (show (decide (a < b) && risB (b :: r)) = true from h)
    have ih := risB_pw h2
    have hab : a < b := of_decide_eq_true h1
    refine List.pairwise_cons.mpr ⟨fun z hz => ?_, ih⟩
    rcases List.mem_cons.mp hz with rfl | hz
    · exact hab
    · exact Nat.lt_trans hab ((List.pairwise_cons.mp ih).1 z hz)
theorem pw_risB : ∀ {l : List Nat}, l.Pairwise (· < ·) → risB l = true
  | [], _ => rfl
  | [a], _ => rfl
  | a :: b :: r, h => by
    have h' := List.pairwise_cons.mp h
    show (decide (a < b) && risB (b :: r)) = true
    rw [pw_risB h'.2, decide_eq_true (h'.1 b (by simp))]
    rfl
abbrev sgl (c : Nat) : Str := ⟨#[c]⟩
theorem sgl_inj {a b : Nat} (h : sgl a = sgl b) : a = b := by
  have := congrArg (fun s : Str => s.cps.toList) h
  simpa using this
theorem leS_sgl {a b : Nat} : leS (sgl a) (sgl b) = decide (a ≤ b) := by
  rw [Bool.eq_iff_iff, leS_iff, decide_eq_true_eq]
  show [a] ≤ [b] ↔ a ≤ b
  rw [List.cons_le_cons_iff]
  simp
  omega
theorem map_nodup {l : List Nat} (h : l.Nodup) : (l.map sgl).Nodup := by
  unfold List.Nodup at h ⊢
  rw [List.pairwise_map]
  exact h.imp fun n e => n (sgl_inj e)
/-- list(x) == sorted(dict of its signs): strictly rising -/
theorem rising_iff (cs : List Nat) : (cs.map sgl = srt leS (dedup (cs.map sgl))) ↔ risB cs = true := by
  constructor
  · intro e
    have hp : (srt leS (dedup (cs.map sgl))).Perm (dedup (cs.map sgl)) := srt_perm _
    have hn : (cs.map sgl).Nodup := by rw [e]; exact hp.nodup_iff.mpr (dedup_nodup _)
    have hw : (cs.map sgl).Pairwise (fun a b => leS a b = true) := by rw [e]; exact srt_pw leS_tot leS_tr _
    have hw2 : cs.Pairwise (· ≤ ·) := by
      rw [List.pairwise_map] at hw
      exact hw.imp fun h => by rw [leS_sgl] at h; exact of_decide_eq_true h
    have hn2 : cs.Nodup := by
      unfold List.Nodup at hn ⊢
      rw [List.pairwise_map] at hn
      exact hn.imp fun n e => n (by rw [e])
    refine pw_risB ?_
    have := List.Pairwise.and hw2 hn2
    exact this.imp fun ⟨h1, h2⟩ => Nat.lt_of_le_of_ne h1 h2
  · intro h
    have hw := risB_pw h
    have hn : cs.Nodup := hw.imp fun h => Nat.ne_of_lt h
    rw [dedup_same (map_nodup hn)]
    refine srt_eq leS_tot leS_tr leS_an (.refl _) ?_
    rw [List.pairwise_map]
    exact hw.imp fun h => by rw [leS_sgl]; exact decide_eq_true (Nat.le_of_lt h)
end FL

namespace FL.K01
open PySem L2 PyProof.Rows PySem.Spec
abbrev P : Program := PySem.Challenge.pw_surelyhas_k01_lines_pages_and_words
def top (i : Nat) : Stmt := PySem.Challenge.pw_surelyhas_k01_lines_pages_and_words.main.body.getD i (.Pass ⟨0, 0, 0, 0⟩)
def d_is_line : He.DefD := ⟨("is_line", none), "is_line", "is_line", defArgs (top 8), defBody (top 8), defScope (top 8), [], []⟩
def d_is_name : He.DefD := ⟨("is_name", none), "is_name", "is_name", defArgs (top 9), defBody (top 9), defScope (top 9), [], []⟩
def d_is_word : He.DefD := ⟨("is_word", none), "is_word", "is_word", defArgs (top 10), defBody (top 10), defScope (top 10), [], []⟩
def d_is_signs : He.DefD := ⟨("is_signs", none), "is_signs", "is_signs", defArgs (top 11), defBody (top 11), defScope (top 11), [], []⟩
def d_is_page : He.DefD := ⟨("is_page", none), "is_page", "is_page", defArgs (top 12), defBody (top 12), defScope (top 12), [], []⟩
def d_check_page : He.DefD := ⟨("check_page", none), "check_page", "check_page", defArgs (top 13), defBody (top 13), defScope (top 13), [], []⟩
def d_show_page : He.DefD := ⟨("show_page", none), "show_page", "show_page", defArgs (top 14), defBody (top 14), defScope (top 14), [], []⟩
def d_page_text : He.DefD := ⟨("page_text", none), "page_text", "page_text", defArgs (top 15), defBody (top 15), defScope (top 15), [], []⟩
def d_page_in : He.DefD := ⟨("page_in", none), "page_in", "page_in", defArgs (top 16), defBody (top 16), defScope (top 16), [], []⟩
def d_read_page : He.DefD := ⟨("read_page", none), "read_page", "read_page", defArgs (top 17), defBody (top 17), defScope (top 17), [], []⟩
def d__law_pool : He.DefD := ⟨("_law_pool", none), "_law_pool", "_law_pool", defArgs (top 19), defBody (top 19), defScope (top 19), [], []⟩
def d__law_draw : He.DefD := ⟨("_law_draw", none), "_law_draw", "_law_draw", defArgs (top 20), defBody (top 20), defScope (top 20), [], []⟩
def d__law_some_text : He.DefD := ⟨("_law_some_text", none), "_law_some_text", "_law_some_text", defArgs (top 21), defBody (top 21), defScope (top 21), [], []⟩
def d__law_is_made : He.DefD := ⟨("_law_is_made", none), "_law_is_made", "_law_is_made", defArgs (top 22), defBody (top 22), defScope (top 22), [], []⟩
def d__law_due : He.DefD := ⟨("_law_due", none), "_law_due", "_law_due", defArgs (top 23), defBody (top 23), defScope (top 23), [], []⟩
def d__law_told : He.DefD := ⟨("_law_told", none), "_law_told", "_law_told", defArgs (top 24), defBody (top 24), defScope (top 24), [], []⟩
def d_law : He.DefD := ⟨("law", none), "law", "law", defArgs (top 25), defBody (top 25), defScope (top 25), [], []⟩
def fns : List He.DefD := [d_is_line, d_is_name, d_is_word, d_is_signs, d_is_page, d_check_page, d_show_page, d_page_text, d_page_in, d_read_page, d__law_pool, d__law_draw, d__law_some_text, d__law_is_made, d__law_due, d__law_told, d_law]
def fas : List He.Fa := [.glo "is_line", .glo "is_name", .glo "is_word", .glo "is_signs", .glo "is_page", .glo "check_page", .glo "show_page", .glo "page_text", .glo "page_in", .glo "read_page", .glo "_law_pool", .glo "_law_draw", .glo "_law_some_text", .glo "_law_is_made", .glo "_law_due", .glo "_law_told", .glo "law", .glo "BadPage", .glo "BadText", .free "all", .free "tuple", .free "abs", .free "range", .free "isinstance", .free "str", .free "len", .free "int", .free "list", .free "sorted", .free "max", .free "sum", .free "dict", .free "min", .free "super", .free "zip", .free "repr", .str "LETTERS" "abcdefghijklmnopqrstuvwxyz", .int "MOST_SIGNS" 6, .int "MOST_LETTERS" 3]
def ers : List ErD := [⟨"BadPage", "value", "BadPage.__init__", [⟨6, 17, 6, 21⟩, ⟨6, 23, 6, 28⟩, ⟨7, 8, 7, 13⟩, ⟨7, 8, 7, 15⟩, ⟨7, 8, 7, 24⟩, ⟨7, 25, 7, 30⟩, ⟨7, 8, 7, 31⟩, ⟨7, 8, 7, 31⟩, ⟨8, 8, 8, 12⟩, ⟨8, 8, 8, 18⟩, ⟨8, 21, 8, 26⟩, ⟨8, 8, 8, 26⟩]⟩,
  ⟨"BadText", "at", "BadText.__init__", [⟨11, 17, 11, 21⟩, ⟨11, 23, 11, 25⟩, ⟨12, 8, 12, 13⟩, ⟨12, 8, 12, 15⟩, ⟨12, 8, 12, 24⟩, ⟨12, 25, 12, 27⟩, ⟨12, 8, 12, 28⟩, ⟨12, 8, 12, 28⟩, ⟨13, 8, 13, 12⟩, ⟨13, 8, 13, 15⟩, ⟨13, 18, 13, 20⟩, ⟨13, 8, 13, 20⟩]⟩]
def errs : List Str := ["BadPage", "BadText"]
def cls : List Str := []
def exs (K : PySem.W.Frag) : Bool := (errs.all fun c => errs.all fun c' => decide (PySem.W.exmOne K (.ref (He.ga K c)) (.ref (He.ga K c')) = some (decide (c = c')))) && cnB K
abbrev R : PySem.W.OpenRow := PySem.W.OpenLaw.row PySem.Challenge.rw_surelyhas_k01_lines_pages_and_words
abbrev hk : PySem.W.Hook := hookF PySem.Challenge.pw_surelyhas_k01_lines_pages_and_words 5 fas fns ers exs
def ob (s : PySem.W.SharedT) : AlF := obsFG PySem.Challenge.pw_surelyhas_k01_lines_pages_and_words 5 fas fns ers exs (HandSHeadRun.getT s)
theorem ob_eq (s : PySem.W.SharedT) : ob s = hk.obs s.abs := obsFG_eq (HandSHeadRun.getT_eq s)
def lo : List PySem.Str := ["__name__", "HasError", "BadPage", "BadText", "LETTERS", "MOST_SIGNS", "MOST_LETTERS", "is_line", "is_name", "is_word", "is_signs", "is_page", "check_page", "show_page", "page_text", "page_in", "read_page", "_law_pool", "_law_draw", "_law_some_text", "_law_is_made", "_law_due", "_law_told"]
theorem run (w : World) : HandSHeadRun.RunEq R (PySem.W.view R.prog [25]) hk ob 3000 lo w := by
  intro os
  kernel_rfl
def b_is_line : SM := (sRet (mAnd (mIs cls (.ty "str") (mVar 0)) (mCall (on1 dAll) (aCons (mComp (iSeq (mVar 0)) [1] (tName 1) cYes (mOp dIn (mVar 1) (mC (.str "abcdefghijklmnopqrstuvwxyz")))) aNil))))
def f_is_line : List D → M D := bodyF 1 ["value", "letter"] b_is_line
def b_is_name : SM := (sRet (mAnd (mFn0 f_is_line (aCons (mVar 0) aNil)) (mChain dLe dLe (mC (.int 1)) (mCall (on1 dLen) (aCons (mVar 0) aNil)) (mC (.int 8)))))
def f_is_name : List D → M D := bodyF 1 ["value"] b_is_name
def b_is_word : SM := (sRet (mAnd (mFn0 f_is_line (aCons (mVar 0) aNil)) (mChain dLe dLe (mC (.int 1)) (mCall (on1 dLen) (aCons (mVar 0) aNil)) (mC (.int 3)))))
def f_is_word : List D → M D := bodyF 1 ["value"] b_is_word
def b_is_signs : SM := (sSeq (sIf (bOr (bNot (mB (mFn0 f_is_line (aCons (mVar 0) aNil)))) (bNot (mB (mChain dLe dLe (mC (.int 1)) (mCall (on1 dLen) (aCons (mVar 0) aNil)) (mC (.int 6)))))) (sRet (mC (.bl false))) sNext)
  (sRet (mCall (on1 dAll) (aCons (mComp (iArgs zipXD (aCons (mVar 0) (aCons (mSl (mVar 0) (oSome (mC (.int 1))) oNone) aNil))) [1, 2] (tTuple [1, 2]) cYes (mOp dLt (mVar 1) (mVar 2))) aNil))))
def f_is_signs : List D → M D := bodyF 1 ["value", "one", "other"] b_is_signs
def b_is_page : SM := (sRet (mAnd (mIs cls (.ty "tuple") (mVar 0)) (mCall (on1 dAll) (aCons (mComp (iSeq (mVar 0)) [1] (tName 1) cYes (mFn0 f_is_line (aCons (mVar 1) aNil))) aNil))))
def f_is_page : List D → M D := bodyF 1 ["value", "line"] b_is_page
def b_check_page : SM := (sIf (bNot (mB (mFn0 f_is_page (aCons (mVar 0) aNil)))) (sRaise "BadPage" (mVar 0)) sNext)
def f_check_page : List D → M D := bodyF 1 ["page"] b_check_page
def b_page_text : SM := (sRet (mIf (mB (mOp dNe (mVar 0) (mTup aNil))) (mM1 dJoin (mC (.str "/")) (mComp (iSeq (mVar 0)) [1] (tName 1) cYes (mJoined [(mC (.str "=")), (mFmt (mVar 1))]))) (mC (.str "-"))))
def f_page_text : List D → M D := bodyF 1 ["page", "line"] b_page_text
def b_show_page : SM := (sSeq (sExpr (mFn0 f_check_page (aCons (mVar 0) aNil)))
  (sRet (mFn0 f_page_text (aCons (mVar 0) aNil))))
def f_show_page : List D → M D := bodyF 1 ["page"] b_show_page
def b_page_in_43 : SM := (sSeq (sSet 1 (mM1 dSplit (mVar 0) (mC (.str "/"))))
  (sSeq (sIf (bNot (mB (mCall (on1 dAll) (aCons (mComp (iSeq (mVar 1)) [2] (tName 2) cYes (mAnd (mOp dEq (mSl (mVar 2) oNone (oSome (mC (.int 1)))) (mC (.str "="))) (mFn0 f_is_line (aCons (mSl (mVar 2) (oSome (mC (.int 1))) oNone) aNil)))) aNil)))) (sRet (mC .non)) sNext)
  (sRet (mCall (on1 dTuple) (aCons (mComp (iSeq (mVar 1)) [2] (tName 2) cYes (mSl (mVar 2) (oSome (mC (.int 1))) oNone)) aNil)))))
def b_page_in : SM := (sSeq (sIf (bNot (mB (mIs cls (.ty "str") (mVar 0)))) (sRet (mC .non)) sNext)
  (sSeq (sIf (mB (mOp dEq (mVar 0) (mC (.str "-")))) (sRet (mTup aNil)) sNext)
  b_page_in_43))
def f_page_in : List D → M D := bodyF 1 ["text", "parts", "part"] b_page_in
def b_read_page : SM := (sSeq (sSet 1 (mFn0 f_page_in (aCons (mVar 0) aNil)))
  (sSeq (sIf (mB (mOp dIsN (mVar 1) (mC .non))) (sRaise "BadText" (mC .non)) sNext)
  (sRet (mVar 1))))
def f_read_page : List D → M D := bodyF 1 ["text", "found"] b_read_page
def b__law_pool_58 : SM := (sSeq (sSet 4 (mOp dMod (mCall (on1 dInt) (aCons (mVar 3) aNil)) (mC (.int 2147483629))))
  (sSeq (sSet 5 (mOp dMod (mCall (on1 dInt) (aCons (mOp dMul (mOp dAdd (mOp dAdd (mOp dAdd (mVar 4) (mOp dMul (mOp dMul (mC (.int 7919)) (mVar 1)) (mVar 1))) (mOp dMul (mC (.int 31)) (mVar 1))) (mC (.int 17))) (mC (.int 48271))) aNil)) (mC (.int 2147483647))))
  (sRet (mLstC (aCons (mOp dMul (mVar 3) (mCall (on1 dInt) (aCons (mOp dGe (mVar 3) (mOp dPow (mC (.int 10)) (mC (.int 18)))) aNil))) (aCons (mOp dMod (mCall (on1 dInt) (aCons (mOp dMul (mVar 5) (mVar 5)) aNil)) (mC (.int 2147483629))) aNil))))))
def b__law_pool : SM := (sSeq (sSet 2 (mOp dAdd (mOp dMul (mC (.int 11)) (mCall (on1 dSum) (aCons (mSl (mVar 0) oNone (oSome (mC (.int 63)))) aNil))) (mVar 1)))
  (sSeq (sIf (mB (mOp dLt (mVar 1) (mCall (on1 dLen) (aCons (mVar 0) aNil)))) (sSet 2 (mOp dIx (mVar 0) (mVar 1))) sNext)
  (sSeq (sSet 3 (mCall (on1 dAbs) (aCons (mCall (on1 dInt) (aCons (mVar 2) aNil)) aNil)))
  b__law_pool_58)))
def f__law_pool : List D → M D := bodyF 2 ["_law_script", "_law_k", "_law_cell", "_law_great", "_law_small", "_law_mixed"] b__law_pool
def b__law_draw : SM := (sSeq (sIf (mB (mOp dGt (mOp dIx (mVar 0) (mC (.int 0))) (mC (.int 0)))) (sSeq (sSet 2 (mOp dMod (mCall (on1 dInt) (aCons (mOp dIx (mVar 0) (mC (.int 0))) aNil)) (mVar 1)))
  (sSeq (sSetIx (mVar 0) (mC (.int 0)) (mOp dFdiv (mOp dIx (mVar 0) (mC (.int 0))) (mVar 1)))
  (sRet (mVar 2)))) sNext)
  (sSeq (sSetIx (mVar 0) (mC (.int 1)) (mOp dMod (mCall (on1 dInt) (aCons (mOp dAdd (mOp dMul (mOp dIx (mVar 0) (mC (.int 1))) (mC (.int 48271))) (mC (.int 11))) aNil)) (mC (.int 2147483647))))
  (sRet (mOp dMod (mCall (on1 dInt) (aCons (mOp dFdiv (mOp dMod (mCall (on1 dInt) (aCons (mOp dMul (mOp dIx (mVar 0) (mC (.int 1))) (mOp dIx (mVar 0) (mC (.int 1)))) aNil)) (mC (.int 2147483629))) (mC (.int 16))) aNil)) (mVar 1)))))
def f__law_draw : List D → M D := bodyF 2 ["_law_pool_here", "_law_many", "_law_found"] b__law_draw
def b__law_some_text : SM := (sSeq (sSet 1 (mOp dAdd (mC (.str "abz")) (mSl (mC (.str "A1 _=/")) oNone (oSome (mFn0 f__law_draw (aCons (mVar 0) (aCons (mC (.int 7)) aNil)))))))
  (sRet (mM1 dJoin (mC (.str "")) (mComp (iArgs rngD1 (aCons (mFn0 f__law_draw (aCons (mVar 0) (aCons (mC (.int 10)) aNil))) aNil)) [2] (tName 2) cYes (mOp dIx (mVar 1) (mFn0 f__law_draw (aCons (mVar 0) (aCons (mCall (on1 dLen) (aCons (mVar 1) aNil)) aNil))))))))
def f__law_some_text : List D → M D := bodyF 1 ["_law_pool_here", "_law_signs", "_law_turn"] b__law_some_text
def b__law_is_made : SM := (sRet (mOp dEq (mComp (iSeq (mVar 0)) [1] (tName 1) (mB (mOp dNotIn (mVar 1) (mC (.str "abcdefghijklmnopqrstuvwxyz")))) (mVar 1)) (mLst aNil)))
def f__law_is_made : List D → M D := bodyF 1 ["_law_text", "_law_sign"] b__law_is_made
def b__law_due : SM := (sSeq (sIf (bOr (bNot (mB (mIs cls (.ty "str") (mVar 0)))) (bNot (mB (mFn0 f__law_is_made (aCons (mVar 0) aNil))))) (sRet (mLst (aCons (mC (.bl false)) (aCons (mC (.bl false)) (aCons (mC (.bl false)) (aCons (mC (.bl false)) aNil)))))) sNext)
  (sSeq (sSet 1 (mOp dEq (mCall (on1 dList2) (aCons (mVar 0) aNil)) (mCall (on1 dSorted) (aCons (mCall (on1 dDict) (aCons (mComp (iSeq (mVar 0)) [2] (tName 2) cYes (mTup (aCons (mVar 2) (aCons (mC (.bl true)) aNil)))) aNil)) aNil))))
  (sRet (mLst (aCons (mC (.bl true)) (aCons (mChain dLe dLe (mC (.int 1)) (mCall (on1 dLen) (aCons (mVar 0) aNil)) (mC (.int 8))) (aCons (mAnd (mChain dLe dLe (mC (.int 1)) (mCall (on1 dLen) (aCons (mVar 0) aNil)) (mC (.int 6))) (mVar 1)) (aCons (mChain dLe dLe (mC (.int 1)) (mCall (on1 dLen) (aCons (mVar 0) aNil)) (mC (.int 3))) aNil))))))))
def f__law_due : List D → M D := bodyF 1 ["_law_thing", "_law_rising", "_law_sign"] b__law_due
def b__law_told : SM := (sTry errs (sRet (mIf (mB (mOp dEq (mVar 0) (mC (.int 0)))) (mFn0 f_read_page (aCons (mVar 1) aNil)) (mFn0 f_show_page (aCons (mVar 1) aNil)))) [⟨"BadText", some 2, fun d ρ μ => if 2 < ρ.length then sdPair "text" d ρ μ else .bad⟩, ⟨"BadPage", some 2, fun d ρ μ => if 2 < ρ.length then sdRepr "page" d ρ μ else .bad⟩])
def f__law_told : List D → M D := bodyF 2 ["_law_door", "_law_thing", "e"] b__law_told
def l_law_90 : SM := (sSeq (sSet 10 (mFn0 f__law_due (aCons (mVar 5) aNil)))
  (sIf (mB (mOp dNe (mLst (aCons (mFn0 f_is_line (aCons (mVar 5) aNil)) (aCons (mFn0 f_is_name (aCons (mVar 5) aNil)) (aCons (mFn0 f_is_signs (aCons (mVar 5) aNil)) (aCons (mFn0 f_is_word (aCons (mVar 5) aNil)) aNil))))) (mVar 10))) (sRet (mC (.bl false))) sNext))
def l_law_98 : SM := (sIf (bOr (mB (mFn0 f_is_page (aCons (mVar 5) aNil))) (mB (mOp dNe (mFn0 f__law_told (aCons (mC (.int 1)) (aCons (mVar 5) aNil))) (mLst (aCons (mC (.str "page")) (aCons (mCall (on1 dRepr) (aCons (mVar 5) aNil)) aNil)))))) (sRet (mC (.bl false))) sNext)
def l_law_102 : SM := (sIf (mB (mOp dNe (mFn0 f__law_told (aCons (mC (.int 0)) (aCons (mVar 9) aNil))) (mLst (aCons (mC (.str "text")) (aCons (mC .non) aNil))))) (sRet (mC (.bl false))) sNext)
def b_law_98 : SM := (sSeq (sFor (iSeq (mLst (aCons (mCall (on1 dList2) (aCons (mVar 6) aNil)) (aCons (mOp dAdd (mVar 6) (mTup (aCons (mC (.str "A")) aNil))) (aCons (mOp dAdd (mVar 6) (mTup (aCons (mC .non) aNil))) (aCons (mOp dAdd (mVar 6) (mTup (aCons (mC (.int 1)) aNil))) (aCons (mC .non) (aCons (mC (.str "ab")) (aCons (mC (.int 5)) aNil))))))))) (tName 5) l_law_98)
  (sSeq (sSet 8 (mLst (aCons (mOp dAdd (mVar 7) (mC (.str "/"))) (aCons (mC (.str "a")) (aCons (mC (.str "ab/=a")) (aCons (mC (.str "=A")) (aCons (mC (.str "=a /=b")) (aCons (mC (.str "")) (aCons (mC (.str "--")) (aCons (mC (.str "-/=a")) (aCons (mC (.str "=a=b")) (aCons (mC (.str " -")) (aCons (mC .non) (aCons (mC (.int 5)) (aCons (mVar 6) aNil)))))))))))))))
  (sFor (iSeq (mOp dAdd (mVar 8) (mLst (aCons (mTup (aCons (mC (.str "=a")) aNil)) aNil)))) (tName 9) l_law_102)))
def b_law_95 : SM := (sSeq (sSet 7 (mIf (mB (mOp dNe (mVar 6) (mTup aNil))) (mM1 dJoin (mC (.str "/")) (mComp (iSeq (mVar 6)) [12] (tName 12) cYes (mOp dAdd (mC (.str "=")) (mVar 12)))) (mC (.str "-"))))
  (sSeq (sIf (bOr (bNot (mB (mFn0 f_is_page (aCons (mVar 6) aNil)))) (bOr (mB (mOp dNe (mFn0 f_show_page (aCons (mVar 6) aNil)) (mVar 7))) (mB (mOp dNe (mFn0 f_read_page (aCons (mVar 7) aNil)) (mVar 6))))) (sRet (mC (.bl false))) sNext)
  b_law_98))
def b_law_94 : SM := (sSeq (sSet 6 (mCall (on1 dTuple) (aCons (mComp (iArgs rngD1 (aCons (mFn0 f__law_draw (aCons (mVar 2) (aCons (mC (.int 4)) aNil))) aNil)) [11] (tName 11) cYes (mSl (mC (.str "abz")) oNone (oSome (mFn0 f__law_draw (aCons (mVar 2) (aCons (mC (.int 4)) aNil)))))) aNil)))
  b_law_95)
def b_law_88 : SM := (sSeq (sSet 3 (mFn0 f__law_some_text (aCons (mVar 2) aNil)))
  (sSeq (sSet 4 (mLst (aCons (mVar 3) (aCons (mC (.str "abcdef")) (aCons (mC (.str "abcdefg")) (aCons (mC (.str "ba")) (aCons (mC (.str "aa")) (aCons (mC (.str "")) (aCons (mC (.str "abcdefgh")) (aCons (mC (.str "abcdefghi")) (aCons (mC (.str "abc")) (aCons (mC (.str "abcd")) aNil))))))))))))
  (sSeq (sFor (iSeq (mOp dAdd (mVar 4) (mLst (aCons (mC .non) (aCons (mC (.int 5)) (aCons (mC (.bl true)) (aCons (mTup (aCons (mC (.str "a")) aNil)) (aCons (mLst (aCons (mC (.str "a")) aNil)) (aCons mDct0 aNil))))))))) (tName 5) l_law_90)
  b_law_94)))
def l_law_86 : SM := (sSeq (sSet 2 (mFn0 f__law_pool (aCons (mVar 0) (aCons (mVar 1) aNil))))
  b_law_88)
def b_law : SM := (sSeq (sFor (iArgs rngD1 (aCons (mCall (on2 dMax2) (aCons (mC (.int 1)) (aCons (mCall (on2 dMin2) (aCons (mCall (on1 dLen) (aCons (mVar 0) aNil)) (aCons (mC (.int 8)) aNil))) aNil))) aNil)) (tName 1) l_law_86)
  (sRet (mAnd (mOp dEq (mFn0 f_read_page (aCons (mC (.str "-")) aNil)) (mTup aNil)) (mOp dEq (mFn0 f_show_page (aCons (mTup aNil) aNil)) (mC (.str "-"))))))
def f_law : List D → M D := bodyF 1 ["_law_script", "_law_k", "_law_pool_here", "_law_text", "_law_things", "_law_thing", "_law_page", "_law_shown", "_law_odds", "_law_odd", "_law_due_here", "_law_turn", "_law_line"] b_law
theorem exs_ok {K : PySem.W.Frag} (h : exs K = true) : (∀ c ∈ errs, ∀ c' ∈ errs, PySem.W.exmOne K (.ref (He.ga K c)) (.ref (He.ga K c')) = some (decide (c = c'))) ∧ CnK K ∧ ClsT K cls := by
  obtain ⟨h1, h2⟩ := band h
  exact ⟨fun c hc c' hc' => of_decide_eq_true (List.all_eq_true.mp (List.all_eq_true.mp h1 c hc) c' hc'), cnB_ok h2, ⟨fun _ h => (nomatch h), fun _ h => (nomatch h)⟩⟩
structure Tx (K : PySem.W.Frag) (mg : Str → Option Value) : Prop where
  n_all : mg "all" = none
  n_tuple : mg "tuple" = none
  n_abs : mg "abs" = none
  n_range : mg "range" = none
  n_isinstance : mg "isinstance" = none
  n_str : mg "str" = none
  n_len : mg "len" = none
  n_int : mg "int" = none
  n_list : mg "list" = none
  n_sorted : mg "sorted" = none
  n_max : mg "max" = none
  n_sum : mg "sum" = none
  n_dict : mg "dict" = none
  n_min : mg "min" = none
  n_super : mg "super" = none
  n_zip : mg "zip" = none
  n_repr : mg "repr" = none
  c_LETTERS : ∃ t, mg "LETTERS" = some (.str "abcdefghijklmnopqrstuvwxyz" t)
  c_MOST_SIGNS : ∃ t, mg "MOST_SIGNS" = some (.int 6 t)
  c_MOST_LETTERS : ∃ t, mg "MOST_LETTERS" = some (.int 3 t)
  e_BadPage : ErrC P K mg "BadPage" (excField "BadPage") (He.ga K "BadPage") (iniA K "BadPage")
  e_BadText : ErrC P K mg "BadText" (excField "BadText") (He.ga K "BadText") (iniA K "BadText")
  exm : ∀ c ∈ errs, ∀ c' ∈ errs, PySem.W.exmOne K (.ref (He.ga K c)) (.ref (He.ga K c')) = some (decide (c = c'))
  cls : ClsT K cls
  F_is_line : ∃ fd, FunD K "is_line" "is_line" (defArgs (top 8)) (defBody (top 8)) (defScope (top 8)) [] [] (He.ga K "is_line") fd
  g_is_line : mg "is_line" = some (.ref (He.ga K "is_line"))
  F_is_name : ∃ fd, FunD K "is_name" "is_name" (defArgs (top 9)) (defBody (top 9)) (defScope (top 9)) [] [] (He.ga K "is_name") fd
  g_is_name : mg "is_name" = some (.ref (He.ga K "is_name"))
  F_is_word : ∃ fd, FunD K "is_word" "is_word" (defArgs (top 10)) (defBody (top 10)) (defScope (top 10)) [] [] (He.ga K "is_word") fd
  g_is_word : mg "is_word" = some (.ref (He.ga K "is_word"))
  F_is_signs : ∃ fd, FunD K "is_signs" "is_signs" (defArgs (top 11)) (defBody (top 11)) (defScope (top 11)) [] [] (He.ga K "is_signs") fd
  g_is_signs : mg "is_signs" = some (.ref (He.ga K "is_signs"))
  F_is_page : ∃ fd, FunD K "is_page" "is_page" (defArgs (top 12)) (defBody (top 12)) (defScope (top 12)) [] [] (He.ga K "is_page") fd
  g_is_page : mg "is_page" = some (.ref (He.ga K "is_page"))
  F_check_page : ∃ fd, FunD K "check_page" "check_page" (defArgs (top 13)) (defBody (top 13)) (defScope (top 13)) [] [] (He.ga K "check_page") fd
  g_check_page : mg "check_page" = some (.ref (He.ga K "check_page"))
  F_show_page : ∃ fd, FunD K "show_page" "show_page" (defArgs (top 14)) (defBody (top 14)) (defScope (top 14)) [] [] (He.ga K "show_page") fd
  g_show_page : mg "show_page" = some (.ref (He.ga K "show_page"))
  F_page_text : ∃ fd, FunD K "page_text" "page_text" (defArgs (top 15)) (defBody (top 15)) (defScope (top 15)) [] [] (He.ga K "page_text") fd
  g_page_text : mg "page_text" = some (.ref (He.ga K "page_text"))
  F_page_in : ∃ fd, FunD K "page_in" "page_in" (defArgs (top 16)) (defBody (top 16)) (defScope (top 16)) [] [] (He.ga K "page_in") fd
  g_page_in : mg "page_in" = some (.ref (He.ga K "page_in"))
  F_read_page : ∃ fd, FunD K "read_page" "read_page" (defArgs (top 17)) (defBody (top 17)) (defScope (top 17)) [] [] (He.ga K "read_page") fd
  g_read_page : mg "read_page" = some (.ref (He.ga K "read_page"))
  F__law_pool : ∃ fd, FunD K "_law_pool" "_law_pool" (defArgs (top 19)) (defBody (top 19)) (defScope (top 19)) [] [] (He.ga K "_law_pool") fd
  g__law_pool : mg "_law_pool" = some (.ref (He.ga K "_law_pool"))
  F__law_draw : ∃ fd, FunD K "_law_draw" "_law_draw" (defArgs (top 20)) (defBody (top 20)) (defScope (top 20)) [] [] (He.ga K "_law_draw") fd
  g__law_draw : mg "_law_draw" = some (.ref (He.ga K "_law_draw"))
  F__law_some_text : ∃ fd, FunD K "_law_some_text" "_law_some_text" (defArgs (top 21)) (defBody (top 21)) (defScope (top 21)) [] [] (He.ga K "_law_some_text") fd
  g__law_some_text : mg "_law_some_text" = some (.ref (He.ga K "_law_some_text"))
  F__law_is_made : ∃ fd, FunD K "_law_is_made" "_law_is_made" (defArgs (top 22)) (defBody (top 22)) (defScope (top 22)) [] [] (He.ga K "_law_is_made") fd
  g__law_is_made : mg "_law_is_made" = some (.ref (He.ga K "_law_is_made"))
  F__law_due : ∃ fd, FunD K "_law_due" "_law_due" (defArgs (top 23)) (defBody (top 23)) (defScope (top 23)) [] [] (He.ga K "_law_due") fd
  g__law_due : mg "_law_due" = some (.ref (He.ga K "_law_due"))
  F__law_told : ∃ fd, FunD K "_law_told" "_law_told" (defArgs (top 24)) (defBody (top 24)) (defScope (top 24)) [] [] (He.ga K "_law_told") fd
  g__law_told : mg "_law_told" = some (.ref (He.ga K "_law_told"))
  F_law : ∃ fd, FunD K "law" "law" (defArgs (top 25)) (defBody (top 25)) (defScope (top 25)) [] [] (He.ga K "law") fd
  g_law : mg "law" = some (.ref (He.ga K "law"))
section
variable {w : World} {K : PySem.W.Frag} {mg : Str → Option Value} {base : Heap}
theorem sc_is_line : FnScope ["value", "letter"] ["value"] (defScope (top 8)) := ⟨rfl, rfl, rfl, by decide +kernel, rfl, by decide +kernel, by decide +kernel⟩
theorem ok_is_line (T : Tx K mg) : CallG P w K mg base 1 "is_line" ["value"] f_is_line := by
  obtain ⟨fd, F⟩ := T.F_is_line
  refine ⟨_, fd, fn_D F sc_is_line fun cdv A outer s H E hr hgd => ?_, T.g_is_line, F.kp, F.bindsN fun _ _ _ _ _ _ us hl => match us, hl with | [_], _ => rfl⟩
  have hu := units_of hr
  have tk : Takes (cxOf (L2.CX P w) P w K mg base ["value", "letter"] "is_line" (defScope (top 8)) (He.ga K "is_line") cdv A outer s H E) (W0 E) := takes_of rfl rfl rfl rfl
  exact (fs_one (fs_ret (fe_and (fe_isTy T.cls rfl T.n_isinstance rfl T.n_str PyProof.Rows.Boot.«str» (fe_var 0)) (fe_one (fe_callB (cr_allD rfl) rfl T.n_all PyProof.Rows.Boot.«all» (fa_cons (fe_comp (own := [("letter", 1)]) rfl sc_is_line.nd (fi_seq (fe_var 0)) (blkOk_by rfl) (fun _ _ _ _ _ => (ft_name 1 sc_is_line.nd)) (fun _ _ _ _ _ => fts_nil) (fun _ _ _ _ _ => (fe_cmp (or_in hu) (fe_var 1) (fe_gStr rfl T.c_LETTERS.choose_spec)))) fa_nil))))))
theorem sc_is_name : FnScope ["value"] ["value"] (defScope (top 9)) := ⟨rfl, rfl, rfl, by decide +kernel, rfl, by decide +kernel, by decide +kernel⟩
theorem ok_is_name (T : Tx K mg) : CallG P w K mg base 2 "is_name" ["value"] f_is_name := by
  obtain ⟨fd, F⟩ := T.F_is_name
  refine ⟨_, fd, fn_D F sc_is_name fun cdv A outer s H E hr hgd => ?_, T.g_is_name, F.kp, F.bindsN fun _ _ _ _ _ _ us hl => match us, hl with | [_], _ => rfl⟩
  have hu := units_of hr
  have tk : Takes (cxOf (L2.CX P w) P w K mg base ["value"] "is_name" (defScope (top 9)) (He.ga K "is_name") cdv A outer s H E) (W0 E) := takes_of rfl rfl rfl rfl
  exact (fs_one (fs_ret (fe_and (fe_fn (ok_is_line T) hr hgd tk (fa_cons (fe_var 0) fa_nil)) (fe_one (fe_chain or_le or_le fe_int (fe_callB cr_len rfl T.n_len PyProof.Rows.Boot.«len» (fa_cons (fe_var 0) fa_nil)) fe_int)))))
theorem sc_is_word : FnScope ["value"] ["value"] (defScope (top 10)) := ⟨rfl, rfl, rfl, by decide +kernel, rfl, by decide +kernel, by decide +kernel⟩
theorem ok_is_word (T : Tx K mg) : CallG P w K mg base 2 "is_word" ["value"] f_is_word := by
  obtain ⟨fd, F⟩ := T.F_is_word
  refine ⟨_, fd, fn_D F sc_is_word fun cdv A outer s H E hr hgd => ?_, T.g_is_word, F.kp, F.bindsN fun _ _ _ _ _ _ us hl => match us, hl with | [_], _ => rfl⟩
  have hu := units_of hr
  have tk : Takes (cxOf (L2.CX P w) P w K mg base ["value"] "is_word" (defScope (top 10)) (He.ga K "is_word") cdv A outer s H E) (W0 E) := takes_of rfl rfl rfl rfl
  exact (fs_one (fs_ret (fe_and (fe_fn (ok_is_line T) hr hgd tk (fa_cons (fe_var 0) fa_nil)) (fe_one (fe_chain or_le or_le fe_int (fe_callB cr_len rfl T.n_len PyProof.Rows.Boot.«len» (fa_cons (fe_var 0) fa_nil)) (fe_gInt rfl T.c_MOST_LETTERS.choose_spec))))))
theorem sc_is_signs : FnScope ["value", "one", "other"] ["value"] (defScope (top 11)) := ⟨rfl, rfl, rfl, by decide +kernel, rfl, by decide +kernel, by decide +kernel⟩
theorem ok_is_signs (T : Tx K mg) : CallG P w K mg base 2 "is_signs" ["value"] f_is_signs := by
  obtain ⟨fd, F⟩ := T.F_is_signs
  refine ⟨_, fd, fn_D F sc_is_signs fun cdv A outer s H E hr hgd => ?_, T.g_is_signs, F.kp, F.bindsN fun _ _ _ _ _ _ us hl => match us, hl with | [_], _ => rfl⟩
  have hu := units_of hr
  have tk : Takes (cxOf (L2.CX P w) P w K mg base ["value", "one", "other"] "is_signs" (defScope (top 11)) (He.ga K "is_signs") cdv A outer s H E) (W0 E) := takes_of rfl rfl rfl rfl
  exact (fs_cons (fs_if (PW.pt (fw_or (fb_not (fb_val (fe_fn (ok_is_line T) hr hgd tk (fa_cons (fe_var 0) fa_nil)))) (fw_or1 (fb_not (fb_chain or_le or_le fe_int (fe_callB cr_len rfl T.n_len PyProof.Rows.Boot.«len» (fa_cons (fe_var 0) fa_nil)) (fe_gInt rfl T.c_MOST_SIGNS.choose_spec)))))) (fs_one (fs_ret fe_bl)) fs_nil)
  (fs_one (fs_ret (fe_callB (cr_allD rfl) rfl T.n_all PyProof.Rows.Boot.«all» (fa_cons (fe_comp (own := [("one", 1), ("other", 2)]) rfl sc_is_signs.nd (fi_zipX rfl T.n_zip (fa_cons (fe_var 0) (fa_cons (fe_sl (fe_var 0) (fo_some fe_int) fo_none) fa_nil))) (blkOk_by rfl) (fun _ _ _ _ _ => (ft_tup rfl (fgs_cons 1 sc_is_signs.nd (fgs_cons 2 sc_is_signs.nd fgs_nil)))) (fun _ _ _ _ _ => fts_nil) (fun _ _ _ _ _ => (fe_cmp or_lt (fe_var 1) (fe_var 2)))) fa_nil)))))
theorem sc_is_page : FnScope ["value", "line"] ["value"] (defScope (top 12)) := ⟨rfl, rfl, rfl, by decide +kernel, rfl, by decide +kernel, by decide +kernel⟩
theorem ok_is_page (T : Tx K mg) : CallG P w K mg base 2 "is_page" ["value"] f_is_page := by
  obtain ⟨fd, F⟩ := T.F_is_page
  refine ⟨_, fd, fn_D F sc_is_page fun cdv A outer s H E hr hgd => ?_, T.g_is_page, F.kp, F.bindsN fun _ _ _ _ _ _ us hl => match us, hl with | [_], _ => rfl⟩
  have hu := units_of hr
  have tk : Takes (cxOf (L2.CX P w) P w K mg base ["value", "line"] "is_page" (defScope (top 12)) (He.ga K "is_page") cdv A outer s H E) (W0 E) := takes_of rfl rfl rfl rfl
  exact (fs_one (fs_ret (fe_and (fe_isTy T.cls rfl T.n_isinstance rfl T.n_tuple PyProof.Rows.Boot.«tuple» (fe_var 0)) (fe_one (fe_callB (cr_allD rfl) rfl T.n_all PyProof.Rows.Boot.«all» (fa_cons (fe_comp (own := [("line", 1)]) rfl sc_is_page.nd (fi_seq (fe_var 0)) (blkOk_by rfl) (fun _ _ _ _ _ => (ft_name 1 sc_is_page.nd)) (fun _ _ _ _ _ => fts_nil) (fun _ _ _ _ _ => (fe_fn (ok_is_line T) hr hgd takes0 (fa_cons (fe_var 1) fa_nil)))) fa_nil))))))
theorem sc_check_page : FnScope ["page"] ["page"] (defScope (top 13)) := ⟨rfl, rfl, rfl, by decide +kernel, rfl, by decide +kernel, by decide +kernel⟩
theorem ok_check_page (T : Tx K mg) : CallG P w K mg base 3 "check_page" ["page"] f_check_page := by
  obtain ⟨fd, F⟩ := T.F_check_page
  refine ⟨_, fd, fn_D F sc_check_page fun cdv A outer s H E hr hgd => ?_, T.g_check_page, F.kp, F.bindsN fun _ _ _ _ _ _ us hl => match us, hl with | [_], _ => rfl⟩
  have hu := units_of hr
  have tk : Takes (cxOf (L2.CX P w) P w K mg base ["page"] "check_page" (defScope (top 13)) (He.ga K "check_page") cdv A outer s H E) (W0 E) := takes_of rfl rfl rfl rfl
  exact (fs_one (fs_if (fb_not (fb_val (fe_fn (ok_is_page T) hr hgd tk (fa_cons (fe_var 0) fa_nil)))) (fs_one (fs_raise rfl tk T.e_BadPage rfl hr (fe_var 0) rfl)) fs_nil))
theorem sc_page_text : FnScope ["page", "line"] ["page"] (defScope (top 15)) := ⟨rfl, rfl, rfl, by decide +kernel, rfl, by decide +kernel, by decide +kernel⟩
theorem ok_page_text (T : Tx K mg) : CallG P w K mg base 1 "page_text" ["page"] f_page_text := by
  obtain ⟨fd, F⟩ := T.F_page_text
  refine ⟨_, fd, fn_D F sc_page_text fun cdv A outer s H E hr hgd => ?_, T.g_page_text, F.kp, F.bindsN fun _ _ _ _ _ _ us hl => match us, hl with | [_], _ => rfl⟩
  have hu := units_of hr
  have tk : Takes (cxOf (L2.CX P w) P w K mg base ["page", "line"] "page_text" (defScope (top 15)) (He.ga K "page_text") cdv A outer s H E) (W0 E) := takes_of rfl rfl rfl rfl
  exact (fs_one (fs_ret (fe_if (fb_cmp (or_ne hu) (fe_var 0) (fe_tup fa_nil)) (fe_m1 PySem.F.slot_str_join PySem.F.type_str_join md_join fe_str (fe_comp (own := [("line", 1)]) rfl sc_page_text.nd (fi_seq (fe_var 0)) (blkOk_by rfl) (fun _ _ _ _ _ => (ft_name 1 sc_page_text.nd)) (fun _ _ _ _ _ => fts_nil) (fun _ _ _ _ _ => (fe_joined (ms := [(mC (.str "=")), (mFmt (mVar 1))]) (.cons fe_str (.cons (fe_fmt (fe_var 1)) .nil)))))) fe_str)))
theorem sc_show_page : FnScope ["page"] ["page"] (defScope (top 14)) := ⟨rfl, rfl, rfl, by decide +kernel, rfl, by decide +kernel, by decide +kernel⟩
theorem ok_show_page (T : Tx K mg) : CallG P w K mg base 4 "show_page" ["page"] f_show_page := by
  obtain ⟨fd, F⟩ := T.F_show_page
  refine ⟨_, fd, fn_D F sc_show_page fun cdv A outer s H E hr hgd => ?_, T.g_show_page, F.kp, F.bindsN fun _ _ _ _ _ _ us hl => match us, hl with | [_], _ => rfl⟩
  have hu := units_of hr
  have tk : Takes (cxOf (L2.CX P w) P w K mg base ["page"] "show_page" (defScope (top 14)) (He.ga K "show_page") cdv A outer s H E) (W0 E) := takes_of rfl rfl rfl rfl
  exact (fs_cons (fs_expr (fe_fn (ok_check_page T) hr hgd tk (fa_cons (fe_var 0) fa_nil)))
  (fs_one (fs_ret (fe_fn (ok_page_text T) hr hgd tk (fa_cons (fe_var 0) fa_nil)))))
theorem sc_page_in : FnScope ["text", "parts", "part"] ["text"] (defScope (top 16)) := ⟨rfl, rfl, rfl, by decide +kernel, rfl, by decide +kernel, by decide +kernel⟩
theorem ok_page_in (T : Tx K mg) : CallG P w K mg base 2 "page_in" ["text"] f_page_in := by
  obtain ⟨fd, F⟩ := T.F_page_in
  refine ⟨_, fd, fn_D F sc_page_in fun cdv A outer s H E hr hgd => ?_, T.g_page_in, F.kp, F.bindsN fun _ _ _ _ _ _ us hl => match us, hl with | [_], _ => rfl⟩
  have hu := units_of hr
  have tk : Takes (cxOf (L2.CX P w) P w K mg base ["text", "parts", "part"] "page_in" (defScope (top 16)) (He.ga K "page_in") cdv A outer s H E) (W0 E) := takes_of rfl rfl rfl rfl
  exact (fs_cons (fs_if (fb_not (fb_val (fe_isTy T.cls rfl T.n_isinstance rfl T.n_str PyProof.Rows.Boot.«str» (fe_var 0)))) (fs_one (fs_ret fe_non)) fs_nil)
  (fs_cons (fs_if (fb_cmp (or_eq hu) (fe_var 0) fe_str) (fs_one (fs_ret (fe_tup fa_nil))) fs_nil)
  (fs_cons (fs_set 1 sc_page_in.nd (fe_m1 PySem.F.slot_str_split PySem.F.type_str_split md_split (fe_var 0) fe_str))
  (fs_cons (fs_if (fb_not (fb_val (fe_callB (cr_allD rfl) rfl T.n_all PyProof.Rows.Boot.«all» (fa_cons (fe_comp (own := [("part", 2)]) rfl sc_page_in.nd (fi_seq (fe_var 1)) (blkOk_by rfl) (fun _ _ _ _ _ => (ft_name 2 sc_page_in.nd)) (fun _ _ _ _ _ => fts_nil) (fun _ _ _ _ _ => (fe_and (fe_cmp (or_eq hu) (fe_sl (fe_var 2) fo_none (fo_some fe_int)) fe_str) (fe_one (fe_fn (ok_is_line T) hr hgd takes0 (fa_cons (fe_sl (fe_var 2) (fo_some fe_int) fo_none) fa_nil)))))) fa_nil)))) (fs_one (fs_ret fe_non)) fs_nil)
  (fs_one (fs_ret (fe_callTy cr_tuple rfl T.n_tuple PyProof.Rows.Boot.«tuple» (fa_cons (fe_comp (own := [("part", 2)]) rfl sc_page_in.nd (fi_seq (fe_var 1)) (blkOk_by rfl) (fun _ _ _ _ _ => (ft_name 2 sc_page_in.nd)) (fun _ _ _ _ _ => fts_nil) (fun _ _ _ _ _ => (fe_sl (fe_var 2) (fo_some fe_int) fo_none))) fa_nil))))))))
theorem sc_read_page : FnScope ["text", "found"] ["text"] (defScope (top 17)) := ⟨rfl, rfl, rfl, by decide +kernel, rfl, by decide +kernel, by decide +kernel⟩
theorem ok_read_page (T : Tx K mg) : CallG P w K mg base 3 "read_page" ["text"] f_read_page := by
  obtain ⟨fd, F⟩ := T.F_read_page
  refine ⟨_, fd, fn_D F sc_read_page fun cdv A outer s H E hr hgd => ?_, T.g_read_page, F.kp, F.bindsN fun _ _ _ _ _ _ us hl => match us, hl with | [_], _ => rfl⟩
  have hu := units_of hr
  have tk : Takes (cxOf (L2.CX P w) P w K mg base ["text", "found"] "read_page" (defScope (top 17)) (He.ga K "read_page") cdv A outer s H E) (W0 E) := takes_of rfl rfl rfl rfl
  exact (fs_cons (fs_set 1 sc_read_page.nd (fe_fn (ok_page_in T) hr hgd tk (fa_cons (fe_var 0) fa_nil)))
  (fs_cons (fs_if (fb_cmp or_isN (fe_var 1) fe_non) (fs_one (fs_raise rfl tk T.e_BadText rfl hr fe_non rfl)) fs_nil)
  (fs_one (fs_ret (fe_var 1)))))
theorem sc__law_pool : FnScope ["_law_script", "_law_k", "_law_cell", "_law_great", "_law_small", "_law_mixed"] ["_law_script", "_law_k"] (defScope (top 19)) := ⟨rfl, rfl, rfl, by decide +kernel, rfl, by decide +kernel, by decide +kernel⟩
theorem ok__law_pool (T : Tx K mg) : CallG P w K mg base 1 "_law_pool" ["_law_script", "_law_k"] f__law_pool := by
  obtain ⟨fd, F⟩ := T.F__law_pool
  refine ⟨_, fd, fn_D F sc__law_pool fun cdv A outer s H E hr hgd => ?_, T.g__law_pool, F.kp, F.bindsN fun _ _ _ _ _ _ us hl => match us, hl with | [_, _], _ => rfl⟩
  have hu := units_of hr
  have tk : Takes (cxOf (L2.CX P w) P w K mg base ["_law_script", "_law_k", "_law_cell", "_law_great", "_law_small", "_law_mixed"] "_law_pool" (defScope (top 19)) (He.ga K "_law_pool") cdv A outer s H E) (W0 E) := takes_of rfl rfl rfl rfl
  exact (fs_cons (fs_set 2 sc__law_pool.nd (fe_op or_add (fe_op or_mul fe_int (fe_callB (cr_sumD rfl) rfl T.n_sum PyProof.Rows.Boot.«sum» (fa_cons (fe_sl (fe_var 0) fo_none (fo_some fe_int)) fa_nil))) (fe_var 1)))
  (fs_cons (fs_if (fb_cmp or_lt (fe_var 1) (fe_callB cr_len rfl T.n_len PyProof.Rows.Boot.«len» (fa_cons (fe_var 0) fa_nil))) (fs_one (fs_set 2 sc__law_pool.nd (fe_ix (fe_var 0) (fe_var 1)))) fs_nil)
  (fs_cons (fs_set 3 sc__law_pool.nd (fe_callB cr_abs rfl T.n_abs PyProof.Rows.Boot.«abs» (fa_cons (fe_callTy cr_int rfl T.n_int PyProof.Rows.Boot.«int» (fa_cons (fe_var 2) fa_nil)) fa_nil)))
  (fs_cons (fs_set 4 sc__law_pool.nd (fe_op or_mod (fe_callTy cr_int rfl T.n_int PyProof.Rows.Boot.«int» (fa_cons (fe_var 3) fa_nil)) fe_int))
  (fs_cons (fs_set 5 sc__law_pool.nd (fe_op or_mod (fe_callTy cr_int rfl T.n_int PyProof.Rows.Boot.«int» (fa_cons (fe_op or_mul (fe_op or_add (fe_op or_add (fe_op or_add (fe_var 4) (fe_op or_mul (fe_op or_mul fe_int (fe_var 1)) (fe_var 1))) (fe_op or_mul fe_int (fe_var 1))) fe_int) fe_int) fa_nil)) fe_int))
  (fs_one (fs_ret (fe_lstC (fa_cons (fe_op or_mul (fe_var 3) (fe_callTy cr_int rfl T.n_int PyProof.Rows.Boot.«int» (fa_cons (fe_cmp or_ge (fe_var 3) (fe_op or_pow fe_int fe_int)) fa_nil))) (fa_cons (fe_op or_mod (fe_callTy cr_int rfl T.n_int PyProof.Rows.Boot.«int» (fa_cons (fe_op or_mul (fe_var 5) (fe_var 5)) fa_nil)) fe_int) fa_nil))))))))))
theorem sc__law_draw : FnScope ["_law_pool_here", "_law_many", "_law_found"] ["_law_pool_here", "_law_many"] (defScope (top 20)) := ⟨rfl, rfl, rfl, by decide +kernel, rfl, by decide +kernel, by decide +kernel⟩
theorem ok__law_draw (T : Tx K mg) : CallG P w K mg base 1 "_law_draw" ["_law_pool_here", "_law_many"] f__law_draw := by
  obtain ⟨fd, F⟩ := T.F__law_draw
  refine ⟨_, fd, fn_D F sc__law_draw fun cdv A outer s H E hr hgd => ?_, T.g__law_draw, F.kp, F.bindsN fun _ _ _ _ _ _ us hl => match us, hl with | [_, _], _ => rfl⟩
  have hu := units_of hr
  have tk : Takes (cxOf (L2.CX P w) P w K mg base ["_law_pool_here", "_law_many", "_law_found"] "_law_draw" (defScope (top 20)) (He.ga K "_law_draw") cdv A outer s H E) (W0 E) := takes_of rfl rfl rfl rfl
  exact (fs_cons (fs_if (fb_cmp or_gt (fe_ix (fe_var 0) fe_int) fe_int) (fs_cons (fs_set 2 sc__law_draw.nd (fe_op or_mod (fe_callTy cr_int rfl T.n_int PyProof.Rows.Boot.«int» (fa_cons (fe_ix (fe_var 0) fe_int) fa_nil)) (fe_var 1)))
  (fs_cons (fs_setIx (fe_var 0) fe_int (fe_op or_fdiv (fe_ix (fe_var 0) fe_int) (fe_var 1)))
  (fs_one (fs_ret (fe_var 2))))) fs_nil)
  (fs_cons (fs_setIx (fe_var 0) fe_int (fe_op or_mod (fe_callTy cr_int rfl T.n_int PyProof.Rows.Boot.«int» (fa_cons (fe_op or_add (fe_op or_mul (fe_ix (fe_var 0) fe_int) fe_int) fe_int) fa_nil)) fe_int))
  (fs_one (fs_ret (fe_op or_mod (fe_callTy cr_int rfl T.n_int PyProof.Rows.Boot.«int» (fa_cons (fe_op or_fdiv (fe_op or_mod (fe_callTy cr_int rfl T.n_int PyProof.Rows.Boot.«int» (fa_cons (fe_op or_mul (fe_ix (fe_var 0) fe_int) (fe_ix (fe_var 0) fe_int)) fa_nil)) fe_int) fe_int) fa_nil)) (fe_var 1))))))
theorem sc__law_some_text : FnScope ["_law_pool_here", "_law_signs", "_law_turn"] ["_law_pool_here"] (defScope (top 21)) := ⟨rfl, rfl, rfl, by decide +kernel, rfl, by decide +kernel, by decide +kernel⟩
theorem ok__law_some_text (T : Tx K mg) : CallG P w K mg base 2 "_law_some_text" ["_law_pool_here"] f__law_some_text := by
  obtain ⟨fd, F⟩ := T.F__law_some_text
  refine ⟨_, fd, fn_D F sc__law_some_text fun cdv A outer s H E hr hgd => ?_, T.g__law_some_text, F.kp, F.bindsN fun _ _ _ _ _ _ us hl => match us, hl with | [_], _ => rfl⟩
  have hu := units_of hr
  have tk : Takes (cxOf (L2.CX P w) P w K mg base ["_law_pool_here", "_law_signs", "_law_turn"] "_law_some_text" (defScope (top 21)) (He.ga K "_law_some_text") cdv A outer s H E) (W0 E) := takes_of rfl rfl rfl rfl
  exact (fs_cons (fs_set 1 sc__law_some_text.nd (fe_op or_add fe_str (fe_sl fe_str fo_none (fo_some (fe_fn (ok__law_draw T) hr hgd tk (fa_cons (fe_var 0) (fa_cons fe_int fa_nil)))))))
  (fs_one (fs_ret (fe_m1 PySem.F.slot_str_join PySem.F.type_str_join md_join fe_str (fe_comp (own := [("_law_turn", 2)]) rfl sc__law_some_text.nd (fi_range1 rfl T.n_range (fa_cons (fe_fn (ok__law_draw T) hr hgd tk (fa_cons (fe_var 0) (fa_cons fe_int fa_nil))) fa_nil)) (blkOk_by rfl) (fun _ _ _ _ _ => (ft_name 2 sc__law_some_text.nd)) (fun _ _ _ _ _ => fts_nil) (fun _ _ _ _ _ => (fe_ix (fe_var 1) (fe_fn (ok__law_draw T) hr hgd takes0 (fa_cons (fe_var 0) (fa_cons (fe_callB cr_len rfl T.n_len PyProof.Rows.Boot.«len» (fa_cons (fe_var 1) fa_nil)) fa_nil))))))))))
theorem sc__law_is_made : FnScope ["_law_text", "_law_sign"] ["_law_text"] (defScope (top 22)) := ⟨rfl, rfl, rfl, by decide +kernel, rfl, by decide +kernel, by decide +kernel⟩
theorem ok__law_is_made (T : Tx K mg) : CallG P w K mg base 1 "_law_is_made" ["_law_text"] f__law_is_made := by
  obtain ⟨fd, F⟩ := T.F__law_is_made
  refine ⟨_, fd, fn_D F sc__law_is_made fun cdv A outer s H E hr hgd => ?_, T.g__law_is_made, F.kp, F.bindsN fun _ _ _ _ _ _ us hl => match us, hl with | [_], _ => rfl⟩
  have hu := units_of hr
  have tk : Takes (cxOf (L2.CX P w) P w K mg base ["_law_text", "_law_sign"] "_law_is_made" (defScope (top 22)) (He.ga K "_law_is_made") cdv A outer s H E) (W0 E) := takes_of rfl rfl rfl rfl
  exact (fs_one (fs_ret (fe_cmp (or_eq hu) (fe_comp (own := [("_law_sign", 1)]) rfl sc__law_is_made.nd (fi_seq (fe_var 0)) (blkOk_by rfl) (fun _ _ _ _ _ => (ft_name 1 sc__law_is_made.nd)) (fun _ _ _ _ _ => (fts_one (fb_cmp (or_notIn hu) (fe_var 1) fe_str))) (fun _ _ _ _ _ => (fe_var 1))) (fe_lst fa_nil))))
theorem sc__law_due : FnScope ["_law_thing", "_law_rising", "_law_sign"] ["_law_thing"] (defScope (top 23)) := ⟨rfl, rfl, rfl, by decide +kernel, rfl, by decide +kernel, by decide +kernel⟩
theorem ok__law_due (T : Tx K mg) : CallG P w K mg base 2 "_law_due" ["_law_thing"] f__law_due := by
  obtain ⟨fd, F⟩ := T.F__law_due
  refine ⟨_, fd, fn_D F sc__law_due fun cdv A outer s H E hr hgd => ?_, T.g__law_due, F.kp, F.bindsN fun _ _ _ _ _ _ us hl => match us, hl with | [_], _ => rfl⟩
  have hu := units_of hr
  have tk : Takes (cxOf (L2.CX P w) P w K mg base ["_law_thing", "_law_rising", "_law_sign"] "_law_due" (defScope (top 23)) (He.ga K "_law_due") cdv A outer s H E) (W0 E) := takes_of rfl rfl rfl rfl
  exact (fs_cons (fs_if (PW.pt (fw_or (fb_not (fb_val (fe_isTy T.cls rfl T.n_isinstance rfl T.n_str PyProof.Rows.Boot.«str» (fe_var 0)))) (fw_or1 (fb_not (fb_val (fe_fn (ok__law_is_made T) hr hgd tk (fa_cons (fe_var 0) fa_nil))))))) (fs_one (fs_ret (fe_lst (fa_cons fe_bl (fa_cons fe_bl (fa_cons fe_bl (fa_cons fe_bl fa_nil))))))) fs_nil)
  (fs_cons (fs_set 1 sc__law_due.nd (fe_cmp (or_eq hu) (fe_callTy (cr_list2 rfl) rfl T.n_list PyProof.Rows.Boot.«list» (fa_cons (fe_var 0) fa_nil)) (fe_callB (FL.cr_sorted rfl) rfl T.n_sorted PyProof.Rows.Boot.«sorted» (fa_cons (fe_callTy (cr_dict rfl) rfl T.n_dict PyProof.Rows.Boot.«dict» (fa_cons (fe_comp (own := [("_law_sign", 2)]) rfl sc__law_due.nd (fi_seq (fe_var 0)) (blkOk_by rfl) (fun _ _ _ _ _ => (ft_name 2 sc__law_due.nd)) (fun _ _ _ _ _ => fts_nil) (fun _ _ _ _ _ => (fe_tup (fa_cons (fe_var 2) (fa_cons fe_bl fa_nil))))) fa_nil)) fa_nil))))
  (fs_one (fs_ret (fe_lst (fa_cons fe_bl (fa_cons (fe_chain or_le or_le fe_int (fe_callB cr_len rfl T.n_len PyProof.Rows.Boot.«len» (fa_cons (fe_var 0) fa_nil)) fe_int) (fa_cons (fe_and (fe_chain or_le or_le fe_int (fe_callB cr_len rfl T.n_len PyProof.Rows.Boot.«len» (fa_cons (fe_var 0) fa_nil)) fe_int) (fe_one (fe_var 1))) (fa_cons (fe_chain or_le or_le fe_int (fe_callB cr_len rfl T.n_len PyProof.Rows.Boot.«len» (fa_cons (fe_var 0) fa_nil)) fe_int) fa_nil)))))))))
theorem sc__law_told : FnScope ["_law_door", "_law_thing", "e"] ["_law_door", "_law_thing"] (defScope (top 24)) := ⟨rfl, rfl, rfl, by decide +kernel, rfl, by decide +kernel, by decide +kernel⟩
theorem ok__law_told (T : Tx K mg) : CallG P w K mg base 5 "_law_told" ["_law_door", "_law_thing"] f__law_told := by
  obtain ⟨fd, F⟩ := T.F__law_told
  refine ⟨_, fd, fn_D F sc__law_told fun cdv A outer s H E hr hgd => ?_, T.g__law_told, F.kp, F.bindsN fun _ _ _ _ _ _ us hl => match us, hl with | [_, _], _ => rfl⟩
  have hu := units_of hr
  have tk : Takes (cxOf (L2.CX P w) P w K mg base ["_law_door", "_law_thing", "e"] "_law_told" (defScope (top 24)) (He.ga K "_law_told") cdv A outer s H E) (W0 E) := takes_of rfl rfl rfl rfl
  exact (fs_one (fs_try errs [(⟨"BadText", some 2, fun d ρ μ => if 2 < ρ.length then sdPair "text" d ρ μ else .bad⟩, tsPair (He.ga K "BadText") (excField "BadText") "text" 2), (⟨"BadPage", some 2, fun d ρ μ => if 2 < ρ.length then sdRepr "page" d ρ μ else .bad⟩, tsRepr K (He.ga K "BadPage") (excField "BadPage") "page" 2)] rfl rfl tk (fun W pn xe tk hps => (fs_one (fs_ret (fe_if (fb_cmp (or_eq hu) (fe_var 0) fe_int) (fe_fn (ok_read_page T) hr hgd tk (fa_cons (fe_var 1) fa_nil)) (fe_fn (ok_show_page T) hr hgd tk (fa_cons (fe_var 1) fa_nil)))))) (.as ⟨rfl, by decide, Or.inl T.e_BadText.gC⟩ sc__law_told.nd rfl rfl (fun a oe cls d pn hz hf => sp_pair (xf_of T.e_BadText) T.e_BadText.noN hz hf rfl rfl) (.as ⟨rfl, by decide, Or.inl T.e_BadPage.gC⟩ sc__law_told.nd rfl rfl (fun a oe cls d pn hz hf => sp_repr hgd hu rfl T.n_repr (xf_of T.e_BadPage) T.e_BadPage.noN hz hf rfl rfl) .nil)) (fun c hc => by
    intro q hq
    simp only [List.mem_cons, List.not_mem_nil, or_false] at hq
    rcases hq with rfl | rfl
    · exact ⟨T.exm c hc "BadText" (by decide), su_pair trivial⟩
    · exact ⟨T.exm c hc "BadPage" (by decide), su_repr trivial⟩)))
theorem sc_law : FnScope ["_law_script", "_law_k", "_law_pool_here", "_law_text", "_law_things", "_law_thing", "_law_page", "_law_shown", "_law_odds", "_law_odd", "_law_due_here", "_law_turn", "_law_line"] ["_law_script"] (defScope (top 25)) := ⟨rfl, rfl, rfl, by decide +kernel, rfl, by decide +kernel, by decide +kernel⟩
theorem ok_law (T : Tx K mg) {fd : FuncData} (F : FunD K "law" "law" (defArgs (top 25)) (defBody (top 25)) (defScope (top 25)) [] [] (He.ga K "law") fd) : FnG P w K mg base 6 (He.ga K "law") fd ["_law_script"] f_law := by
  refine fn_D F sc_law fun cdv A outer s H E hr hgd => ?_
  have hu := units_of hr
  have tk : Takes (cxOf (L2.CX P w) P w K mg base ["_law_script", "_law_k", "_law_pool_here", "_law_text", "_law_things", "_law_thing", "_law_page", "_law_shown", "_law_odds", "_law_odd", "_law_due_here", "_law_turn", "_law_line"] "law" (defScope (top 25)) (He.ga K "law") cdv A outer s H E) (W0 E) := takes_of rfl rfl rfl rfl
  exact (fs_cons (fs_for (passes_of rfl) rfl (fi_range1 rfl T.n_range (fa_cons (fe_callB (cr_max2 rfl) rfl T.n_max PyProof.Rows.Boot.«max» (fa_cons fe_int (fa_cons (fe_callB (cr_min2 rfl) rfl T.n_min PyProof.Rows.Boot.«min» (fa_cons (fe_callB cr_len rfl T.n_len PyProof.Rows.Boot.«len» (fa_cons (fe_var 0) fa_nil)) (fa_cons fe_int fa_nil))) fa_nil))) fa_nil)) (ft_name 1 sc_law.nd) (fs_cons (fs_set 2 sc_law.nd (fe_fn (ok__law_pool T) hr hgd tk (fa_cons (fe_var 0) (fa_cons (fe_var 1) fa_nil))))
  (fs_cons (fs_set 3 sc_law.nd (fe_fn (ok__law_some_text T) hr hgd tk (fa_cons (fe_var 2) fa_nil)))
  (fs_cons (fs_set 4 sc_law.nd (fe_lst (fa_cons (fe_var 3) (fa_cons fe_str (fa_cons fe_str (fa_cons fe_str (fa_cons fe_str (fa_cons fe_str (fa_cons fe_str (fa_cons fe_str (fa_cons fe_str (fa_cons fe_str fa_nil))))))))))))
  (fs_cons (fs_for (passes_of rfl) rfl (fi_seq (fe_op or_add (fe_var 4) (fe_lst (fa_cons fe_non (fa_cons fe_int (fa_cons fe_bl (fa_cons (fe_tup (fa_cons fe_str fa_nil)) (fa_cons (fe_lst (fa_cons fe_str fa_nil)) (fa_cons fe_dct0 fa_nil))))))))) (ft_name 5 sc_law.nd) (fs_cons (fs_set 10 sc_law.nd (fe_fn (ok__law_due T) hr hgd tk (fa_cons (fe_var 5) fa_nil)))
  (fs_one (fs_if (fb_cmp (or_ne hu) (fe_lst (fa_cons (fe_fn (ok_is_line T) hr hgd tk (fa_cons (fe_var 5) fa_nil)) (fa_cons (fe_fn (ok_is_name T) hr hgd tk (fa_cons (fe_var 5) fa_nil)) (fa_cons (fe_fn (ok_is_signs T) hr hgd tk (fa_cons (fe_var 5) fa_nil)) (fa_cons (fe_fn (ok_is_word T) hr hgd tk (fa_cons (fe_var 5) fa_nil)) fa_nil))))) (fe_var 10)) (fs_one (fs_ret fe_bl)) fs_nil))))
  (fs_cons (fs_set 6 sc_law.nd (fe_callTy cr_tuple rfl T.n_tuple PyProof.Rows.Boot.«tuple» (fa_cons (fe_comp (own := [("_law_turn", 11)]) rfl sc_law.nd (fi_range1 rfl T.n_range (fa_cons (fe_fn (ok__law_draw T) hr hgd tk (fa_cons (fe_var 2) (fa_cons fe_int fa_nil))) fa_nil)) (blkOk_by rfl) (fun _ _ _ _ _ => (ft_name 11 sc_law.nd)) (fun _ _ _ _ _ => fts_nil) (fun _ _ _ _ _ => (fe_sl fe_str fo_none (fo_some (fe_fn (ok__law_draw T) hr hgd takes0 (fa_cons (fe_var 2) (fa_cons fe_int fa_nil))))))) fa_nil)))
  (fs_cons (fs_set 7 sc_law.nd (fe_if (fb_cmp (or_ne hu) (fe_var 6) (fe_tup fa_nil)) (fe_m1 PySem.F.slot_str_join PySem.F.type_str_join md_join fe_str (fe_comp (own := [("_law_line", 12)]) rfl sc_law.nd (fi_seq (fe_var 6)) (blkOk_by rfl) (fun _ _ _ _ _ => (ft_name 12 sc_law.nd)) (fun _ _ _ _ _ => fts_nil) (fun _ _ _ _ _ => (fe_op or_add fe_str (fe_var 12))))) fe_str))
  (fs_cons (fs_if (PW.pt (fw_or (fb_not (fb_val (fe_fn (ok_is_page T) hr hgd tk (fa_cons (fe_var 6) fa_nil)))) (fw_or (fb_cmp (or_ne hu) (fe_fn (ok_show_page T) hr hgd tk (fa_cons (fe_var 6) fa_nil)) (fe_var 7)) (fw_or1 (fb_cmp (or_ne hu) (fe_fn (ok_read_page T) hr hgd tk (fa_cons (fe_var 7) fa_nil)) (fe_var 6)))))) (fs_one (fs_ret fe_bl)) fs_nil)
  (fs_cons (fs_for (passes_of rfl) rfl (fi_seq (fe_lst (fa_cons (fe_callTy (cr_list2 rfl) rfl T.n_list PyProof.Rows.Boot.«list» (fa_cons (fe_var 6) fa_nil)) (fa_cons (fe_op or_add (fe_var 6) (fe_tup (fa_cons fe_str fa_nil))) (fa_cons (fe_op or_add (fe_var 6) (fe_tup (fa_cons fe_non fa_nil))) (fa_cons (fe_op or_add (fe_var 6) (fe_tup (fa_cons fe_int fa_nil))) (fa_cons fe_non (fa_cons fe_str (fa_cons fe_int fa_nil))))))))) (ft_name 5 sc_law.nd) (fs_one (fs_if (PW.pt (fw_or (fb_val (fe_fn (ok_is_page T) hr hgd tk (fa_cons (fe_var 5) fa_nil))) (fw_or1 (fb_cmp (or_ne hu) (fe_fn (ok__law_told T) hr hgd tk (fa_cons fe_int (fa_cons (fe_var 5) fa_nil))) (fe_lst (fa_cons fe_str (fa_cons (fe_callB (cr_repr hgd hu) rfl T.n_repr PyProof.Rows.Boot.«repr» (fa_cons (fe_var 5) fa_nil)) fa_nil))))))) (fs_one (fs_ret fe_bl)) fs_nil)))
  (fs_cons (fs_set 8 sc_law.nd (fe_lst (fa_cons (fe_op or_add (fe_var 7) fe_str) (fa_cons fe_str (fa_cons fe_str (fa_cons fe_str (fa_cons fe_str (fa_cons fe_str (fa_cons fe_str (fa_cons fe_str (fa_cons fe_str (fa_cons fe_str (fa_cons fe_non (fa_cons fe_int (fa_cons (fe_var 6) fa_nil)))))))))))))))
  (fs_one (fs_for (passes_of rfl) rfl (fi_seq (fe_op or_add (fe_var 8) (fe_lst (fa_cons (fe_tup (fa_cons fe_str fa_nil)) fa_nil)))) (ft_name 9 sc_law.nd) (fs_one (fs_if (fb_cmp (or_ne hu) (fe_fn (ok__law_told T) hr hgd tk (fa_cons fe_int (fa_cons (fe_var 9) fa_nil))) (fe_lst (fa_cons fe_str (fa_cons fe_non fa_nil)))) (fs_one (fs_ret fe_bl)) fs_nil))))))))))))))
  (fs_one (fs_ret (fe_and (fe_cmp (or_eq hu) (fe_fn (ok_read_page T) hr hgd tk (fa_cons fe_str fa_nil)) (fe_tup fa_nil)) (fe_one (fe_cmp (or_eq hu) (fe_fn (ok_show_page T) hr hgd tk (fa_cons (fe_tup fa_nil) fa_nil)) fe_str))))))
theorem tx_of {h : Heap} (X : K.In h) (G : h.Ns mainGlobals mg) (c : SaysF P fas fns ers exs K) : Tx K mg :=
  { n_all := He.free_ok X G (c.at_ 19),
    n_tuple := He.free_ok X G (c.at_ 20),
    n_abs := He.free_ok X G (c.at_ 21),
    n_range := He.free_ok X G (c.at_ 22),
    n_isinstance := He.free_ok X G (c.at_ 23),
    n_str := He.free_ok X G (c.at_ 24),
    n_len := He.free_ok X G (c.at_ 25),
    n_int := He.free_ok X G (c.at_ 26),
    n_list := He.free_ok X G (c.at_ 27),
    n_sorted := He.free_ok X G (c.at_ 28),
    n_max := He.free_ok X G (c.at_ 29),
    n_sum := He.free_ok X G (c.at_ 30),
    n_dict := He.free_ok X G (c.at_ 31),
    n_min := He.free_ok X G (c.at_ 32),
    n_super := He.free_ok X G (c.at_ 33),
    n_zip := He.free_ok X G (c.at_ 34),
    n_repr := He.free_ok X G (c.at_ 35),
    c_LETTERS := He.str_ok X G (c.at_ 36),
    c_MOST_SIGNS := He.int_ok X G (c.at_ 37),
    c_MOST_LETTERS := He.int_ok X G (c.at_ 38),
    e_BadPage := c.err_ X G 0,
    e_BadText := c.err_ X G 1,
    exm := (exs_ok c.more).1,
    cls := (exs_ok c.more).2.2,
    F_is_line := c.fun_ 0,
    g_is_line := He.glo_ok X G (c.at_ 0),
    F_is_name := c.fun_ 1,
    g_is_name := He.glo_ok X G (c.at_ 1),
    F_is_word := c.fun_ 2,
    g_is_word := He.glo_ok X G (c.at_ 2),
    F_is_signs := c.fun_ 3,
    g_is_signs := He.glo_ok X G (c.at_ 3),
    F_is_page := c.fun_ 4,
    g_is_page := He.glo_ok X G (c.at_ 4),
    F_check_page := c.fun_ 5,
    g_check_page := He.glo_ok X G (c.at_ 5),
    F_show_page := c.fun_ 6,
    g_show_page := He.glo_ok X G (c.at_ 6),
    F_page_text := c.fun_ 7,
    g_page_text := He.glo_ok X G (c.at_ 7),
    F_page_in := c.fun_ 8,
    g_page_in := He.glo_ok X G (c.at_ 8),
    F_read_page := c.fun_ 9,
    g_read_page := He.glo_ok X G (c.at_ 9),
    F__law_pool := c.fun_ 10,
    g__law_pool := He.glo_ok X G (c.at_ 10),
    F__law_draw := c.fun_ 11,
    g__law_draw := He.glo_ok X G (c.at_ 11),
    F__law_some_text := c.fun_ 12,
    g__law_some_text := He.glo_ok X G (c.at_ 12),
    F__law_is_made := c.fun_ 13,
    g__law_is_made := He.glo_ok X G (c.at_ 13),
    F__law_due := c.fun_ 14,
    g__law_due := He.glo_ok X G (c.at_ 14),
    F__law_told := c.fun_ 15,
    g__law_told := He.glo_ok X G (c.at_ 15),
    F_law := c.fun_ 16,
    g_law := He.glo_ok X G (c.at_ 16) }
end
end FL.K01
namespace FL.K01
open PySem L2 PyProof.Rows PySem.Spec
theorem pool_eq : f__law_pool = fPool := rfl
theorem draw_eq : f__law_draw = fDraw := rfl
def LET : Str := "abcdefghijklmnopqrstuvwxyz"
def isLet (c : Nat) : Bool := decide (c ∈ LET.cps.toList)
def okL (z : Str) : Bool := z.cps.toList.all isLet
def lineB : D → Bool
  | .str z => okL z
  | _ => false
/-- what may be asked -/
def Ask : D → Prop
  | .str z => z.cps.size ≤ 60
  | .non => True
  | .bl _ => True
  | .int _ => True
  | .tup _ => True
  | .lst _ => True
  | .dct _ => True
  | _ => False
theorem is_line_ok {μ : Store} {d : D} (h : Ask d) : f_is_line [d] μ = .ok (.bl (lineB d)) μ := by
  cases d with
  | str z =>
    have hz : z.cps.size ≤ sizeLine := big _ (by have : z.cps.size ≤ 60 := h; omega)
    have hc : compL (tName 1) cYes (mOp dIn (mVar 1) (mC (.str "abcdefghijklmnopqrstuvwxyz"))) [some (.str z), none] (chrs z) μ = .ok (z.cps.toList.map fun c => D.bl (isLet c)) μ :=
      compL_ofAll _ (fun c => D.bl (isLet c)) _ fun c _ => ⟨_, rfl, by simp [inStr_one, isLet, LET]⟩
    simp [f_is_line, b_is_line, bTys, chrs_length, hz, hc, lineB, okL, List.all_map, Function.comp_def]
  | non => simp [f_is_line, b_is_line, bTys, lineB]
  | bl b => simp [f_is_line, b_is_line, bTys, lineB]
  | int b => simp [f_is_line, b_is_line, bTys, lineB]
  | tup b => simp [f_is_line, b_is_line, bTys, lineB]
  | lst b => simp [f_is_line, b_is_line, bTys, lineB]
  | dct b => simp [f_is_line, b_is_line, bTys, lineB]
  | _ => exact h.elim

theorem len_str (z : Str) : z.length = z.cps.size := rfl
def lenB (lo hi : Nat) : D → Bool
  | .str z => decide (lo ≤ z.cps.size) && decide (z.cps.size ≤ hi)
  | _ => false
theorem one_le (n : Nat) : decide ((1 : Int) ≤ n) = decide (1 ≤ n) := by
  rw [decide_eq_decide]; omega
theorem le_k (n k : Nat) : decide ((n : Int) ≤ (k : Int)) = decide (n ≤ k) := by
  rw [decide_eq_decide]; omega
theorem is_name_ok {μ : Store} {d : D} (h : Ask d) : f_is_name [d] μ = .ok (.bl (lineB d && lenB 1 8 d)) μ := by
  cases d with
  | str z =>
    have hz : z.cps.size ≤ 60 := h
    have hb : z.cps.size ≤ sizeLine := big _ (by omega)
    simp [f_is_name, b_is_name, is_line_ok h, lineB, lenB, len_str, hb]
    generalize okL z = b
    cases b <;> rw [Bool.eq_iff_iff] <;> simp <;> omega
  | non => simp [f_is_name, b_is_name, is_line_ok h, lineB]
  | bl b => simp [f_is_name, b_is_name, is_line_ok h, lineB]
  | int b => simp [f_is_name, b_is_name, is_line_ok h, lineB]
  | tup b => simp [f_is_name, b_is_name, is_line_ok h, lineB]
  | lst b => simp [f_is_name, b_is_name, is_line_ok h, lineB]
  | dct b => simp [f_is_name, b_is_name, is_line_ok h, lineB]
  | _ => exact h.elim
theorem is_word_ok {μ : Store} {d : D} (h : Ask d) : f_is_word [d] μ = .ok (.bl (lineB d && lenB 1 3 d)) μ := by
  cases d with
  | str z =>
    have hz : z.cps.size ≤ 60 := h
    have hb : z.cps.size ≤ sizeLine := big _ (by omega)
    simp [f_is_word, b_is_word, is_line_ok h, lineB, lenB, len_str, hb]
    generalize okL z = b
    cases b <;> rw [Bool.eq_iff_iff] <;> simp <;> omega
  | non => simp [f_is_word, b_is_word, is_line_ok h, lineB]
  | bl b => simp [f_is_word, b_is_word, is_line_ok h, lineB]
  | int b => simp [f_is_word, b_is_word, is_line_ok h, lineB]
  | tup b => simp [f_is_word, b_is_word, is_line_ok h, lineB]
  | lst b => simp [f_is_word, b_is_word, is_line_ok h, lineB]
  | dct b => simp [f_is_word, b_is_word, is_line_ok h, lineB]
  | _ => exact h.elim
/-! rising texts -/
def rising : D → Bool
  | .str z => risB z.cps.toList
  | _ => false
theorem zip_ris : ∀ cs : List Nat, ((cs.zip (cs.drop 1)).map fun p => decide ([p.1] < [p.2])).all id = risB cs
  | [] => rfl
  | [a] => rfl
  | a :: b :: r => by
    have ih := zip_ris (b :: r)
    show (decide ([a] < [b]) && (((b :: r).zip ((b :: r).drop 1)).map fun p => decide ([p.1] < [p.2])).all id) = _
    rw [ih]
    have e : ([a] < [b]) ↔ a < b := by
      rw [List.cons_lt_cons_iff]
      simp
    show _ = (decide (a < b) && risB (b :: r))
    rw [decide_eq_decide.mpr e]
theorem cut1 (z : Str) : (cutS z (some 1) none).cps.toList = z.cps.toList.drop 1 := by
  show ((z.cps.toList.drop (HT.sIx z.length 0 (some 1))).take (HT.sIx z.length z.length none - HT.sIx z.length 0 (some 1))) = _
  have h1 : HT.sIx z.length 0 (some 1) = min 1 z.length := HT.sIx_nat _ _ 1
  rw [h1, HT.sIx_none]
  have hl : z.cps.toList.length = z.length := by simp [len_str]
  rw [List.take_of_length_le (by rw [List.length_drop, hl]; omega)]
  by_cases h : 1 ≤ z.length
  · rw [Nat.min_eq_left h]
  · have h0 : z.length = 0 := by omega
    rw [h0, List.drop_of_length_le (by omega), List.drop_of_length_le (by omega)]
theorem zipL_chrs (x y : Str) : zipL (chrs x) (chrs y) = (x.cps.toList.zip y.cps.toList).map fun p => .tup [.str (sgl p.1), .str (sgl p.2)] := by
  unfold zipL chrs
  rw [List.zip_map, List.map_map]
  rfl
theorem is_signs_ok {μ : Store} {d : D} (h : Ask d) : f_is_signs [d] μ = .ok (.bl (lineB d && lenB 1 6 d && rising d)) μ := by
  cases d with
  | str z =>
    have hz : z.cps.size ≤ 60 := h
    have hb : z.cps.size ≤ sizeLine := big _ (by omega)
    have hc : compL (tTuple [1, 2]) cYes (mOp dLt (mVar 1) (mVar 2)) [some (.str z), none, none] (zipL (chrs z) (chrs (cutS z (some 1) none))) μ = .ok ((z.cps.toList.zip (z.cps.toList.drop 1)).map fun p => D.bl (decide ([p.1] < [p.2]))) μ := by
      rw [zipL_chrs, cut1]
      exact compL_ofAll _ _ _ fun p _ => ⟨_, rfl, by simp⟩
    have hl : (zipL (chrs z) (chrs (cutS z (some 1) none))).length ≤ sizeLine := by
      rw [zipL_length, chrs_length]
      omega
    have hzip : zipXD [.str z, .str (cutS z (some 1) none)] = some (zipL (chrs z) (chrs (cutS z (some 1) none))) := rfl
    have hall : ((z.cps.toList.zip (z.cps.toList.drop 1)).map fun p => decide ([p.1] < [p.2])).all id = risB z.cps.toList := zip_ris _
    by_cases hk : okL z = true
    · by_cases h1 : 1 ≤ z.cps.size
      · have h1' : (1 : Int) ≤ (z.cps.size : Int) := by omega
        by_cases h6 : z.cps.size ≤ 6
        · have h6' : (z.cps.size : Int) ≤ 6 := by omega
          simp only [f_is_signs, b_is_signs]
          simp [is_line_ok h, lineB, lenB, len_str, hb, hzip, hl, hc, rising, hk, h1, h1', h6, h6', -List.all_map]
          rw [← List.drop_one]
          exact hall
        · have h6' : ¬ (z.cps.size : Int) ≤ 6 := by omega
          simp [f_is_signs, b_is_signs, is_line_ok h, lineB, lenB, len_str, hb, hzip, hl, hc, rising, hk, h1, h1', h6, h6']
      · have h1' : ¬ (1 : Int) ≤ (z.cps.size : Int) := by omega
        simp [f_is_signs, b_is_signs, is_line_ok h, lineB, lenB, len_str, hb, hzip, hl, hc, rising, hk, h1, h1']
    · simp [f_is_signs, b_is_signs, is_line_ok h, lineB, lenB, len_str, hb, hzip, hl, hc, rising, hk]
  | non => simp [f_is_signs, b_is_signs, is_line_ok h, lineB]
  | bl b => simp [f_is_signs, b_is_signs, is_line_ok h, lineB]
  | int b => simp [f_is_signs, b_is_signs, is_line_ok h, lineB]
  | tup b => simp [f_is_signs, b_is_signs, is_line_ok h, lineB]
  | lst b => simp [f_is_signs, b_is_signs, is_line_ok h, lineB]
  | dct b => simp [f_is_signs, b_is_signs, is_line_ok h, lineB]
  | _ => exact h.elim

theorem is_made_ok {μ : Store} {z : Str} (h : Ask (.str z)) : f__law_is_made [.str z] μ = .ok (.bl (okL z)) μ := by
  have hz : z.cps.size ≤ 60 := h
  have hb : z.cps.size ≤ sizeLine := big _ (by omega)
  have h0 : 0 ≤ sizeLine := Nat.zero_le _
  have hc : compL (tName 1) (mB (mOp dNotIn (mVar 1) (mC (.str "abcdefghijklmnopqrstuvwxyz")))) (mVar 1) [some (.str z), none] (chrs z) μ = .ok ((z.cps.toList.filter fun c => !isLet c).map fun c => D.str (sgl c)) μ :=
    compL_of _ (fun c => D.str (sgl c)) _ _ fun c _ => ⟨_, rfl, by simp [inStr_one, isLet, LET], fun _ => by simp⟩
  have he := dEqB_lstr (μ := μ) (n := 28) (xs := (z.cps.toList.filter fun c => !isLet c).map sgl) (ys := [])
  rw [List.map_map] at he
  have he' : dEqB μ 30 (.lst ((z.cps.toList.filter fun c => !isLet c).map fun c => D.str (sgl c))) (.lst []) = some (okL z) := by
    refine Eq.trans he ?_
    rw [Option.some.injEq, Bool.eq_iff_iff]
    unfold okL
    rw [decide_eq_true_eq, List.map_eq_nil_iff, List.filter_eq_nil_iff, List.all_eq_true]
    exact ⟨fun h c hc => by have := h c hc; simpa using this, fun h c hc => by have := h c hc; simpa using this⟩
  simp [f__law_is_made, b__law_is_made, chrs_length, hb, hc, he', -List.map_eq_nil_iff]
theorem dedup_map {α β : Type} [DecidableEq α] [DecidableEq β] (f : α → β) (hf : ∀ a b, f a = f b → a = b) : ∀ (l ks : List α), (l.map f).foldl addK (ks.map f) = (l.foldl addK ks).map f
  | [], ks => rfl
  | x :: l, ks => by
    have e : addK (ks.map f) (f x) = (addK ks x).map f := by
      unfold addK
      by_cases h : x ∈ ks
      · rw [if_pos h, if_pos (List.mem_map_of_mem h)]
      · rw [if_neg h, if_neg (fun q => by
          obtain ⟨y, hy, e⟩ := List.mem_map.mp q
          exact h (by rw [← hf y x e]; exact hy))]
        simp
    rw [List.map_cons, List.foldl_cons, List.foldl_cons, e, dedup_map f hf l]
theorem sorted_ok {μ : Store} (cs : List Nat) (hn : cs.length ≤ 60) : dDict μ (.lst (cs.map fun c => .tup [.str (sgl c), .bl true])) = some (.dct (mergeD [] (cs.map fun c => (.inr (sgl c), .bl true)))) ∧
    dSorted μ (.dct (mergeD [] (cs.map fun c => (.inr (sgl c), .bl true)))) = some (.lst ((srt leS (dedup (cs.map sgl))).map D.str)) := by
  constructor
  · unfold dDict
    simp only [x_asLR]
    rw [seqO_of (f := pairD) (h := fun c => D.tup [.str (sgl c), .bl true]) (g := fun c => ((.inr (sgl c) : Key), D.bl true)) (fun _ => rfl)]
    rfl
  · have hk : (mergeD [] (cs.map fun c => ((.inr (sgl c) : Key), D.bl true))).map (·.1) = (dedup (cs.map sgl)).map Sum.inr := by
      rw [mergeD_keys, List.map_map]
      have := dedup_map (Sum.inr : Str → Key) (fun a b e => Sum.inr.inj e) (cs.map sgl) []
      rw [List.map_map] at this
      exact this
    have hs : keysS (mergeD [] (cs.map fun c => ((.inr (sgl c) : Key), D.bl true))) = some (dedup (cs.map sgl)) := by
      unfold keysS
      have e : (mergeD [] (cs.map fun c => ((.inr (sgl c) : Key), D.bl true))).map (fun q => keyS q.1) = ((mergeD [] (cs.map fun c => ((.inr (sgl c) : Key), D.bl true))).map (·.1)).map keyS := by rw [List.map_map]; rfl
      rw [e, hk]
      have : ∀ l : List Str, seqO ((l.map (Sum.inr : Str → Key)).map keyS) = some l := by
        intro l
        induction l with
        | nil => rfl
        | cons x l ih =>
          simp only [List.map_cons, keyS, seqO]
          rw [ih]
      exact this _
    unfold dSorted
    have hlen : (dedup (cs.map sgl)).length < 64 := by
      have := foldK_len (l := cs.map sgl) (ks := [])
      rw [List.length_map, List.length_nil] at this
      have e : (dedup (cs.map sgl)).length = (List.foldl addK [] (cs.map sgl)).length := rfl
      omega
    show (match keysS (mergeD [] (cs.map fun c => ((.inr (sgl c) : Key), D.bl true))) with
      | some ks => if ks.length < 64 then some (D.lst ((srt leS ks).map D.str)) else none
      | none => _) = _
    rw [hs]
    simp only
    rw [if_pos hlen]
def dueL (d : D) : D := .lst [.bl (lineB d), .bl (lineB d && lenB 1 8 d), .bl (lineB d && lenB 1 6 d && rising d), .bl (lineB d && lenB 1 3 d)]
theorem due_ok {μ : Store} {d : D} (h : Ask d) : f__law_due [d] μ = .ok (dueL d) μ := by
  have h4 : (4 : Nat) ≤ sizeLine := by decide
  cases d with
  | str z =>
    have hz : z.cps.size ≤ 60 := h
    have hb : z.cps.size ≤ sizeLine := big _ (by omega)
    have h2 : (2 : Nat) ≤ sizeLine := by decide
    have hc : compL (tName 2) cYes (mTup (aCons (mVar 2) (aCons (mC (.bl true)) aNil))) [some (.str z), none, none] (chrs z) μ = .ok (z.cps.toList.map fun c => D.tup [.str (sgl c), .bl true]) μ :=
      compL_ofAll _ _ _ fun c _ => ⟨_, rfl, by simp [h2]⟩
    obtain ⟨s1, s2⟩ := sorted_ok (μ := μ) z.cps.toList (by simpa using hz)
    have he : dEqB μ 30 (.lst (chrs z)) (.lst ((srt leS (dedup (z.cps.toList.map sgl))).map D.str)) = some (risB z.cps.toList) := by
      have := dEqB_lstr (μ := μ) (n := 28) (xs := z.cps.toList.map sgl) (ys := srt leS (dedup (z.cps.toList.map sgl)))
      rw [List.map_map] at this
      refine Eq.trans this ?_
      rw [Option.some.injEq, Bool.eq_iff_iff, decide_eq_true_eq]
      exact rising_iff _
    by_cases hk : okL z = true
    · simp [f__law_due, b__law_due, bTys, is_made_ok h, hk, chrs_length, hb, hc, s1, s2, he, len_str, h4, dueL, lineB, lenB, rising]
      refine ⟨?_, ?_, ?_⟩ <;> rw [Bool.eq_iff_iff] <;> simp <;> omega
    · simp [f__law_due, b__law_due, bTys, is_made_ok h, hk, h4, dueL, lineB]
  | non => simp [f__law_due, b__law_due, bTys, h4, dueL, lineB]
  | bl b => simp [f__law_due, b__law_due, bTys, h4, dueL, lineB]
  | int b => simp [f__law_due, b__law_due, bTys, h4, dueL, lineB]
  | tup b => simp [f__law_due, b__law_due, bTys, h4, dueL, lineB]
  | lst b => simp [f__law_due, b__law_due, bTys, h4, dueL, lineB]
  | dct b => simp [f__law_due, b__law_due, bTys, h4, dueL, lineB]
  | _ => exact h.elim

/-! the drawn text -/
theorem glued_size (glue : Str) (parts : List Str) : (Builtin.Str.glued glue parts).cps.size ≤ (parts.map (·.length)).sum + parts.length * glue.length := by
  have key : ∀ (l : List Str) (acc : Array Nat), (l.foldl (fun acc p => acc ++ glue.cps ++ p.cps) acc).size = acc.size + (l.map (·.length)).sum + l.length * glue.length := by
    intro l
    induction l with
    | nil => intro acc; simp
    | cons x l ih =>
      intro acc
      rw [List.foldl_cons, ih]
      simp only [Array.size_append, List.map_cons, List.sum_cons, List.length_cons, Nat.succ_mul]
      rw [show x.length = x.cps.size from rfl, show glue.length = glue.cps.size from rfl]
      omega
  show (List.foldl (fun acc p => acc ++ glue.cps ++ p.cps) (parts.headD Str.empty).cps (parts.drop 1)).size ≤ _
  rw [key]
  cases parts with
  | nil => simp [Str.empty]
  | cons x l =>
    simp only [List.headD_cons, List.drop_one, List.tail_cons, List.map_cons, List.sum_cons, List.length_cons, Nat.succ_mul]
    rw [show x.length = x.cps.size from rfl]
    omega
theorem some_text_ok {μ : Store} {n : Nat} (h : PoolAt n μ) : ∃ z μ', f__law_some_text [.obj n] μ = .ok (.str z) μ' ∧ z.cps.size ≤ 60 ∧ Drew n μ μ' := by
  obtain ⟨v, μ1, h0, h7, d1, e1⟩ := fDraw_ok (m := 7) h (by decide) (by decide)
  let sg : Str := Str.ofString "abz" ++ cutS (Str.ofString "A1 _=/") none (some v)
  have hs3 : 3 ≤ sg.cps.size := by
    show 3 ≤ (Str.ofString "abz" ++ cutS (Str.ofString "A1 _=/") none (some v)).cps.size
    have : (Str.ofString "abz" ++ cutS (Str.ofString "A1 _=/") none (some v)).cps.size = (Str.ofString "abz").cps.size + (cutS (Str.ofString "A1 _=/") none (some v)).cps.size := by
      show ((Str.ofString "abz").cps ++ _).size = _
      rw [Array.size_append]
    rw [this]
    have : (Str.ofString "abz").cps.size = 3 := by decide +kernel
    omega
  have hs9 : sg.cps.size ≤ 9 := by
    show (Str.ofString "abz" ++ cutS (Str.ofString "A1 _=/") none (some v)).cps.size ≤ 9
    have : (Str.ofString "abz" ++ cutS (Str.ofString "A1 _=/") none (some v)).cps.size = (Str.ofString "abz").cps.size + (cutS (Str.ofString "A1 _=/") none (some v)).cps.size := by
      show ((Str.ofString "abz").cps ++ _).size = _
      rw [Array.size_append]
    rw [this]
    have h1 : (Str.ofString "abz").cps.size = 3 := by decide +kernel
    have h2 : (Str.ofString "A1 _=/").length = 6 := by decide +kernel
    have h3 := cutS_length (Str.ofString "A1 _=/") none (some v)
    rw [h2] at h3
    rw [len_str] at h3
    omega
  obtain ⟨k, μ2, k0, k10, d2, e2⟩ := fDraw_ok (m := 10) d1.pool (by decide) (by decide)
  have hsb : sg.length ≤ sizeLine := big _ (by rw [len_str]; omega)
  obtain ⟨ys, μ3, e3, d3, hl, hq⟩ := compL_inv (t := tName 2) (e := mOp dIx (mVar 1) (mFn0 f__law_draw (aCons (mVar 0) (aCons (mCall (on1 dLen) (aCons (mVar 1) aNil)) aNil)))) (ρ := [some (.obj n), some (.str sg), none]) (fun μ' => Drew n μ μ') (fun y => ∃ c, y = D.str (sgl c))
    ((List.range k.toNat).map fun i => D.int (0 + (i : Nat))) μ2 (d1.trans d2) (fun d hd μ' hμ => by
      obtain ⟨w, μ4, w0, w1, d4, e4⟩ := fDraw_ok (m := (sg.cps.size : Int)) hμ.pool (by omega) (by omega)
      have hix : atI sg.cps.toList w = some (sg.cps.toList[w.toNat]'(by simp; omega)) := by
        unfold atI ixN
        rw [if_pos w0, if_pos (by simpa using w1)]
        simp
      refine ⟨_, rfl, .str (sgl (sg.cps.toList[w.toNat]'(by simp; omega))), μ4, ?_, hμ.trans d4, _, rfl⟩
      have hsc : sg.cps.size ≤ sizeLine := hsb
      simp [draw_eq, e4, hsc, len_str, hix])
  obtain ⟨cs, hcs⟩ : ∃ cs : List Nat, ys = cs.map fun c => D.str (sgl c) := by
    clear e3 hl
    induction ys with
    | nil => exact ⟨[], rfl⟩
    | cons y ys ih =>
      obtain ⟨c, hc⟩ := hq y List.mem_cons_self
      obtain ⟨cs, hcs⟩ := ih fun y hy => hq y (.tail _ hy)
      exact ⟨c :: cs, by rw [hc, hcs]; rfl⟩
  have hlen : cs.length ≤ 9 := by
    have : ys.length = cs.length := by rw [hcs]; simp
    rw [← this, hl]
    simp
    omega
  have hsum : ((cs.map sgl).map (·.length)).sum = cs.length := by
    clear hlen hcs
    induction cs with
    | nil => rfl
    | cons c cs ih => simp only [List.map_cons, List.sum_cons, ih, List.length_cons]; rw [show (sgl c).length = 1 from rfl]; omega
  refine ⟨Txt.join (Str.ofString "") (cs.map sgl), μ3, ?_, ?_, d3⟩
  · have hA : (Str.ofString "abz").length + (cutS (Str.ofString "A1 _=/") none (some v)).length ≤ sizeLine := by
      have h1 : (Str.ofString "abz").length = 3 := by decide +kernel
      have h2 : (Str.ofString "A1 _=/").length = 6 := by decide +kernel
      have h3 := cutS_length (Str.ofString "A1 _=/") none (some v)
      have : (9 : Nat) ≤ sizeLine := by decide
      omega
    have hB : (Str.ofString "A1 _=/").length ≤ sizeLine := by decide +kernel
    have hr : rngD1 [.int k] = some ((List.range k.toNat).map fun i => D.int (0 + (i : Nat))) := by
      unfold rngD1
      simp only
      rw [if_pos ⟨by omega, by omega⟩]
    have hrl : ((List.range k.toNat).map fun i => D.int (0 + (i : Nat))).length ≤ sizeLine := by
      have : (9 : Nat) ≤ sizeLine := by decide
      simp
      omega
    have hj : dJoin μ3 (.str (Str.ofString "")) (.lst ys) = some (.str (Txt.join (Str.ofString "") (cs.map sgl))) := by
      unfold dJoin strsOf
      rw [hcs]
      simp only [x_asS, x_asLR, asStrs_of]
      rw [if_pos]
      have : (cs.map fun c => sgl c) = cs.map sgl := rfl
      rw [this, hsum]
      have h0 : (Str.ofString "").length = 0 := by decide +kernel
      rw [h0]
      omega
    have e3' := noX_ok e3
    simp only [f__law_some_text, b__law_some_text, draw_eq, x_body, x_start, x_seq, x_set, x_then, x_op, x_bnd', x_c, x_sl, x_oNone, x_oSome, x_fn0, x_aCons, x_aNil, x_var, x_ret, x_sret, x_m1, x_comp, x_iargs, x_asS]
    simp only [List.length_cons, List.length_nil, List.map_cons, List.map_nil, List.replicate, List.cons_append, List.nil_append, Nat.zero_add, if_true, List.getElem?_cons_zero, e1, x_asI, Option.map_some, x_ofO_some, x_sls, if_pos hB, x_adds, if_pos hA, List.set_cons_succ, List.set_cons_zero, e2, hr, if_pos hrl, x_w, x_w_nil]
    erw [e3']
    simp only [hj]
  · refine Nat.le_trans (glued_size _ _) ?_
    rw [hsum]
    have h0 : (Str.ofString "").length = 0 := by decide +kernel
    rw [h0]
    omega

/-! the pages -/
def L4 : List D := [.str "", .str "a", .str "ab", .str "abz"]
def TailOk (ys : List D) : Prop := ∀ (o0 o1 o2 o3 o4 o5 o7 o8 o9 o10 o11 o12 : Option D) (μ : Store), ∃ a5 a7 a8 a9, b_law_95 [o0, o1, o2, o3, o4, o5, some (.tup ys), o7, o8, o9, o10, o11, o12] μ = .ok (.next [o0, o1, o2, o3, o4, a5, some (.tup ys), a7, a8, a9, o10, o11, o12]) μ
def nextE : SRes → Env
  | .ok (.next ρ) _ => ρ
  | _ => []
def tlR (ys : List D) (o0 o1 o2 o3 o4 o5 o7 o8 o9 o10 o11 o12 : Option D) (μ : Store) : SRes := b_law_95 [o0, o1, o2, o3, o4, o5, some (.tup ys), o7, o8, o9, o10, o11, o12] μ
theorem tail_of {ys : List D} (h : ∀ (o0 o1 o2 o3 o4 o5 o7 o8 o9 o10 o11 o12 : Option D) (μ : Store), tlR ys o0 o1 o2 o3 o4 o5 o7 o8 o9 o10 o11 o12 μ = .ok (.next [o0, o1, o2, o3, o4, (nextE (tlR ys o0 o1 o2 o3 o4 o5 o7 o8 o9 o10 o11 o12 μ)).getD 5 none, some (.tup ys), (nextE (tlR ys o0 o1 o2 o3 o4 o5 o7 o8 o9 o10 o11 o12 μ)).getD 7 none, (nextE (tlR ys o0 o1 o2 o3 o4 o5 o7 o8 o9 o10 o11 o12 μ)).getD 8 none, (nextE (tlR ys o0 o1 o2 o3 o4 o5 o7 o8 o9 o10 o11 o12 μ)).getD 9 none, o10, o11, o12]) μ) : TailOk ys :=
  fun o0 o1 o2 o3 o4 o5 o7 o8 o9 o10 o11 o12 μ => ⟨_, _, _, _, h o0 o1 o2 o3 o4 o5 o7 o8 o9 o10 o11 o12 μ⟩
theorem l4_cases {y : D} (h : y ∈ L4) : y = .str "" ∨ y = .str "a" ∨ y = .str "ab" ∨ y = .str "abz" := by simpa [L4] using h
theorem tail0 : TailOk [] := tail_of (by intros; kernel_rfl)
theorem tail1 {a : D} (ha : a ∈ L4) : TailOk [a] := by
  rcases l4_cases ha with rfl | rfl | rfl | rfl <;> exact tail_of (by intros; kernel_rfl)
theorem tail2 {a b : D} (ha : a ∈ L4) (hb : b ∈ L4) : TailOk [a, b] := by
  rcases l4_cases ha with rfl | rfl | rfl | rfl <;> rcases l4_cases hb with rfl | rfl | rfl | rfl <;> exact tail_of (by intros; kernel_rfl)
theorem tail3_00 {c : D} (hc : c ∈ L4) : TailOk [.str "", .str "", c] := by
  rcases l4_cases hc with rfl | rfl | rfl | rfl <;> exact tail_of (by intros; kernel_rfl)
theorem tail3_01 {c : D} (hc : c ∈ L4) : TailOk [.str "", .str "a", c] := by
  rcases l4_cases hc with rfl | rfl | rfl | rfl <;> exact tail_of (by intros; kernel_rfl)
theorem tail3_02 {c : D} (hc : c ∈ L4) : TailOk [.str "", .str "ab", c] := by
  rcases l4_cases hc with rfl | rfl | rfl | rfl <;> exact tail_of (by intros; kernel_rfl)
theorem tail3_03 {c : D} (hc : c ∈ L4) : TailOk [.str "", .str "abz", c] := by
  rcases l4_cases hc with rfl | rfl | rfl | rfl <;> exact tail_of (by intros; kernel_rfl)
theorem tail3_10 {c : D} (hc : c ∈ L4) : TailOk [.str "a", .str "", c] := by
  rcases l4_cases hc with rfl | rfl | rfl | rfl <;> exact tail_of (by intros; kernel_rfl)
theorem tail3_11 {c : D} (hc : c ∈ L4) : TailOk [.str "a", .str "a", c] := by
  rcases l4_cases hc with rfl | rfl | rfl | rfl <;> exact tail_of (by intros; kernel_rfl)
theorem tail3_12 {c : D} (hc : c ∈ L4) : TailOk [.str "a", .str "ab", c] := by
  rcases l4_cases hc with rfl | rfl | rfl | rfl <;> exact tail_of (by intros; kernel_rfl)
theorem tail3_13 {c : D} (hc : c ∈ L4) : TailOk [.str "a", .str "abz", c] := by
  rcases l4_cases hc with rfl | rfl | rfl | rfl <;> exact tail_of (by intros; kernel_rfl)
theorem tail3_20 {c : D} (hc : c ∈ L4) : TailOk [.str "ab", .str "", c] := by
  rcases l4_cases hc with rfl | rfl | rfl | rfl <;> exact tail_of (by intros; kernel_rfl)
theorem tail3_21 {c : D} (hc : c ∈ L4) : TailOk [.str "ab", .str "a", c] := by
  rcases l4_cases hc with rfl | rfl | rfl | rfl <;> exact tail_of (by intros; kernel_rfl)
theorem tail3_22 {c : D} (hc : c ∈ L4) : TailOk [.str "ab", .str "ab", c] := by
  rcases l4_cases hc with rfl | rfl | rfl | rfl <;> exact tail_of (by intros; kernel_rfl)
theorem tail3_23 {c : D} (hc : c ∈ L4) : TailOk [.str "ab", .str "abz", c] := by
  rcases l4_cases hc with rfl | rfl | rfl | rfl <;> exact tail_of (by intros; kernel_rfl)
theorem tail3_30 {c : D} (hc : c ∈ L4) : TailOk [.str "abz", .str "", c] := by
  rcases l4_cases hc with rfl | rfl | rfl | rfl <;> exact tail_of (by intros; kernel_rfl)
theorem tail3_31 {c : D} (hc : c ∈ L4) : TailOk [.str "abz", .str "a", c] := by
  rcases l4_cases hc with rfl | rfl | rfl | rfl <;> exact tail_of (by intros; kernel_rfl)
theorem tail3_32 {c : D} (hc : c ∈ L4) : TailOk [.str "abz", .str "ab", c] := by
  rcases l4_cases hc with rfl | rfl | rfl | rfl <;> exact tail_of (by intros; kernel_rfl)
theorem tail3_33 {c : D} (hc : c ∈ L4) : TailOk [.str "abz", .str "abz", c] := by
  rcases l4_cases hc with rfl | rfl | rfl | rfl <;> exact tail_of (by intros; kernel_rfl)
theorem tail3 {a b c : D} (ha : a ∈ L4) (hb : b ∈ L4) (hc : c ∈ L4) : TailOk [a, b, c] := by
  rcases l4_cases ha with rfl | rfl | rfl | rfl
  · rcases l4_cases hb with rfl | rfl | rfl | rfl
    · exact tail3_00 hc
    · exact tail3_01 hc
    · exact tail3_02 hc
    · exact tail3_03 hc
  · rcases l4_cases hb with rfl | rfl | rfl | rfl
    · exact tail3_10 hc
    · exact tail3_11 hc
    · exact tail3_12 hc
    · exact tail3_13 hc
  · rcases l4_cases hb with rfl | rfl | rfl | rfl
    · exact tail3_20 hc
    · exact tail3_21 hc
    · exact tail3_22 hc
    · exact tail3_23 hc
  · rcases l4_cases hb with rfl | rfl | rfl | rfl
    · exact tail3_30 hc
    · exact tail3_31 hc
    · exact tail3_32 hc
    · exact tail3_33 hc
theorem tail_all {ys : List D} (hl : ys.length ≤ 3) (h : ∀ y ∈ ys, y ∈ L4) : TailOk ys := by
  match ys, hl, h with
  | [], _, _ => exact tail0
  | [a], _, h => exact tail1 (h a (by simp))
  | [a, b], _, h => exact tail2 (h a (by simp)) (h b (by simp))
  | [a, b, c], _, h => exact tail3 (h a (by simp)) (h b (by simp)) (h c (by simp))
  | _ :: _ :: _ :: _ :: _, hl, _ => exact absurd hl (by simp)
end FL.K01

namespace FL.K01
open PySem L2 PyProof.Rows PySem.Spec
theorem seq_ok {a b : SM} {ρ ρ' : Env} {μ μ' : Store} (h : a ρ μ = .ok (.next ρ') μ') : sSeq a b ρ μ = b ρ' μ' := by
  unfold sSeq
  rw [h]
/-- one thing asked -/
theorem thing_ok {d : D} (h : Ask d) (o0 o1 o2 o3 o4 o6 o7 o8 o9 o10 o11 o12 : Option D) (μ : Store) :
    l_law_90 [o0, o1, o2, o3, o4, some d, o6, o7, o8, o9, o10, o11, o12] μ = .ok (.next [o0, o1, o2, o3, o4, some d, o6, o7, o8, o9, some (dueL d), o11, o12]) μ := by
  have h4 : (4 : Nat) ≤ sizeLine := by decide
  have e : dEqB μ 30 (.lst [.bl (lineB d), .bl (lineB d && lenB 1 8 d), .bl (lineB d && lenB 1 6 d && rising d), .bl (lineB d && lenB 1 3 d)]) (dueL d) = some true := dEqB_refl 30 _ rfl
  simp [l_law_90, due_ok h, is_line_ok h, is_name_ok h, is_signs_ok h, is_word_ok h, h4, e, -Bool.and_assoc]
theorem things_ok {ds : List D} (h : ∀ d ∈ ds, Ask d) (o0 o1 o2 o3 o4 o5 o6 o7 o8 o9 o10 o11 o12 : Option D) (μ : Store) :
    ∃ a5 a10, forS (tName 5) l_law_90 ds [o0, o1, o2, o3, o4, o5, o6, o7, o8, o9, o10, o11, o12] μ = .ok (.next [o0, o1, o2, o3, o4, a5, o6, o7, o8, o9, a10, o11, o12]) μ := by
  obtain ⟨ρ2, μ2, e, ⟨a5, a10, rfl⟩, rfl⟩ := forS_inv (t := tName 5) (b := l_law_90) (fun ρ μ' => (∃ a5 a10, ρ = [o0, o1, o2, o3, o4, a5, o6, o7, o8, o9, a10, o11, o12]) ∧ μ' = μ) ds [o0, o1, o2, o3, o4, o5, o6, o7, o8, o9, o10, o11, o12] μ ⟨⟨_, _, rfl⟩, rfl⟩ (by
    rintro d hd ρ μ' ⟨⟨a5, a10, rfl⟩, rfl⟩
    exact ⟨_, rfl, _, _, .inl (thing_ok (h d hd) ..), ⟨_, _, rfl⟩, rfl⟩)
  exact ⟨a5, a10, e⟩
/-- the drawn page -/
theorem page_ok {n : Nat} {μ : Store} (h : PoolAt n μ) (o0 o1 o3 o4 o5 o6 o7 o8 o9 o10 o11 o12 : Option D) : ∃ ys μ', ys.length ≤ 3 ∧ (∀ y ∈ ys, y ∈ L4) ∧ Drew n μ μ' ∧
    mComp (iArgs rngD1 (aCons (mFn0 f__law_draw (aCons (mVar 2) (aCons (mC (.int 4)) aNil))) aNil)) [11] (tName 11) cYes (mSl (mC (.str "abz")) oNone (oSome (mFn0 f__law_draw (aCons (mVar 2) (aCons (mC (.int 4)) aNil))))) [o0, o1, some (.obj n), o3, o4, o5, o6, o7, o8, o9, o10, o11, o12] μ = .ok (.lst ys) μ' := by
  obtain ⟨k, μ1, k0, k4, d1, e1⟩ := fDraw_ok (m := 4) h (by decide) (by decide)
  have hB : (Str.ofString "abz").length ≤ sizeLine := by decide +kernel
  obtain ⟨ys, μ3, e3, d3, hl, hq⟩ := compL_inv (t := tName 11) (e := mSl (mC (.str "abz")) oNone (oSome (mFn0 f__law_draw (aCons (mVar 2) (aCons (mC (.int 4)) aNil))))) (ρ := [o0, o1, some (.obj n), o3, o4, o5, o6, o7, o8, o9, o10, none, o12]) (fun μ' => Drew n μ μ') (fun y => y ∈ L4)
    ((List.range k.toNat).map fun i => D.int (0 + (i : Nat))) μ1 d1 (fun d hd μ' hμ => by
      obtain ⟨w, μ4, w0, w4, d4, e4⟩ := fDraw_ok (m := 4) hμ.pool (by decide) (by decide)
      refine ⟨_, rfl, .str (cutS (Str.ofString "abz") none (some w)), μ4, ?_, hμ.trans d4, ?_⟩
      · simp [draw_eq, e4, hB]
      · have : w = 0 ∨ w = 1 ∨ w = 2 ∨ w = 3 := by omega
        have c0 : cutS (Str.ofString "abz") none (some 0) = Str.ofString "" := by decide +kernel
        have c1 : cutS (Str.ofString "abz") none (some 1) = Str.ofString "a" := by decide +kernel
        have c2 : cutS (Str.ofString "abz") none (some 2) = Str.ofString "ab" := by decide +kernel
        have c3 : cutS (Str.ofString "abz") none (some 3) = Str.ofString "abz" := by decide +kernel
        rcases this with rfl | rfl | rfl | rfl
        · rw [c0]; simp [L4]
        · rw [c1]; simp [L4]
        · rw [c2]; simp [L4]
        · rw [c3]; simp [L4])
  refine ⟨ys, μ3, by rw [hl]; simp; omega, hq, d3, ?_⟩
  have hr : rngD1 [.int k] = some ((List.range k.toNat).map fun i => D.int (0 + (i : Nat))) := by
    unfold rngD1
    simp only
    rw [if_pos ⟨by omega, by omega⟩]
  have hrl : ((List.range k.toNat).map fun i => D.int (0 + (i : Nat))).length ≤ sizeLine := by
    have : (9 : Nat) ≤ sizeLine := by decide
    simp
    omega
  have e3' := noX_ok e3
  simp only [x_comp, x_iargs, x_aCons, x_aNil, x_bnd', x_fn0, x_var, x_c, x_ret, List.getElem?_cons_zero, List.getElem?_cons_succ, draw_eq, e1, hr, x_ofO_some, if_pos hrl, x_w, x_w_nil, List.set_cons_succ, List.set_cons_zero]
  erw [e3']
/-- a turn of the law -/
theorem turn_ok {ns : List Int} {k : Int} (hk : 0 ≤ k) (hk2 : k < 1000) (o2 o3 o4 o5 o6 o7 o8 o9 o10 o11 o12 : Option D) (μ : Store) :
    ∃ ρ2 μ2, l_law_86 [some (.scr ns), some (.int k), o2, o3, o4, o5, o6, o7, o8, o9, o10, o11, o12] μ = .ok (.next ρ2) μ2 ∧ ∃ a1 a2 a3 a4 a5 a6 a7 a8 a9 a10 a11 a12, ρ2 = [some (.scr ns), a1, a2, a3, a4, a5, a6, a7, a8, a9, a10, a11, a12] := by
  obtain ⟨μ1, e1, p1, _, _⟩ := fPool_ok (μ := μ) (ns := ns) hk hk2
  obtain ⟨z, μ2, e2, hz, d2⟩ := some_text_ok p1
  have h10 : (10 : Nat) ≤ sizeLine := by decide
  have h1 : (1 : Nat) ≤ sizeLine := by decide
  have h6 : (6 : Nat) ≤ sizeLine := by decide
  have h16 : (16 : Nat) ≤ sizeLine := by decide
  let things : List D := [.str z, .str "abcdef", .str "abcdefg", .str "ba", .str "aa", .str "", .str "abcdefgh", .str "abcdefghi", .str "abc", .str "abcd"]
  let more : List D := [.non, .int 5, .bl true, .tup [.str "a"], .lst [.str "a"], .dct []]
  have ask : ∀ d ∈ things ++ more, Ask d := by
    intro d hd
    simp only [things, more, List.cons_append, List.nil_append, List.mem_cons, List.not_mem_nil, or_false] at hd
    rcases hd with rfl | rfl | rfl | rfl | rfl | rfl | rfl | rfl | rfl | rfl | rfl | rfl | rfl | rfl | rfl | rfl
    · exact hz
    all_goals first | trivial | (show Array.size _ ≤ 60; decide +kernel)
  obtain ⟨a5, a10, e3⟩ := things_ok ask (some (.scr ns)) (some (.int k)) (some (.obj μ.length)) (some (.str z)) (some (.lst things)) o5 o6 o7 o8 o9 o10 o11 o12 μ2
  obtain ⟨ys, μ4, hl, hy, d4, e4⟩ := page_ok d2.pool (some (.scr ns)) (some (.int k)) (some (.str z)) (some (.lst things)) a5 o6 o7 o8 o9 a10 o11 o12
  obtain ⟨b5, b7, b8, b9, e5⟩ := tail_all hl hy (some (.scr ns)) (some (.int k)) (some (.obj μ.length)) (some (.str z)) (some (.lst things)) a5 o7 o8 o9 a10 o11 o12 μ4
  refine ⟨[some (.scr ns), some (.int k), some (.obj μ.length), some (.str z), some (.lst things), b5, some (.tup ys), b7, b8, b9, a10, o11, o12], μ4, ?_, _, _, _, _, _, _, _, _, _, _, _, _, rfl⟩
  have s1 : sSet 2 (mFn0 f__law_pool (aCons (mVar 0) (aCons (mVar 1) aNil))) [some (.scr ns), some (.int k), o2, o3, o4, o5, o6, o7, o8, o9, o10, o11, o12] μ = .ok (.next [some (.scr ns), some (.int k), some (.obj μ.length), o3, o4, o5, o6, o7, o8, o9, o10, o11, o12]) μ1 := by simp [pool_eq, e1]
  have s2 : sSet 3 (mFn0 f__law_some_text (aCons (mVar 2) aNil)) [some (.scr ns), some (.int k), some (.obj μ.length), o3, o4, o5, o6, o7, o8, o9, o10, o11, o12] μ1 = .ok (.next [some (.scr ns), some (.int k), some (.obj μ.length), some (.str z), o4, o5, o6, o7, o8, o9, o10, o11, o12]) μ2 := by simp [e2]
  unfold l_law_86
  rw [seq_ok s1]
  unfold b_law_88
  rw [seq_ok s2]
  rw [seq_ok (ρ' := [some (.scr ns), some (.int k), some (.obj μ.length), some (.str z), some (.lst things), o5, o6, o7, o8, o9, o10, o11, o12]) (μ' := μ2) (by simp [h10, things])]
  rw [seq_ok (ρ' := [some (.scr ns), some (.int k), some (.obj μ.length), some (.str z), some (.lst things), a5, o6, o7, o8, o9, a10, o11, o12]) (μ' := μ2) (by
    rw [← e3]
    simp [h1, h6, h16, things, more])]
  unfold b_law_94
  rw [seq_ok (ρ' := [some (.scr ns), some (.int k), some (.obj μ.length), some (.str z), some (.lst things), a5, some (.tup ys), o7, o8, o9, a10, o11, o12]) (μ' := μ4) (by
    simp only [x_set, x_then, x_call, x_aCons, x_bnd', e4]
    simp)]
  exact e5
theorem pure_law : ∀ ns : List Int, ns.length ≤ 63 → ∃ μ, f_law [.scr ns] [] = .ok (.bl true) μ := by
  intro ns hn
  let m : Int := if (if (8 : Int) < (ns.length : Int) then 8 else (ns.length : Int)) > 1 then (if (8 : Int) < (ns.length : Int) then 8 else (ns.length : Int)) else 1
  have hm : 0 ≤ m ∧ m ≤ 8 := by
    show 0 ≤ (if (if (8 : Int) < (ns.length : Int) then 8 else (ns.length : Int)) > 1 then (if (8 : Int) < (ns.length : Int) then 8 else (ns.length : Int)) else 1) ∧ _
    constructor
    · split <;> split <;> omega
    · show (if (if (8 : Int) < (ns.length : Int) then 8 else (ns.length : Int)) > 1 then (if (8 : Int) < (ns.length : Int) then 8 else (ns.length : Int)) else 1) ≤ 8
      split <;> split <;> omega
  obtain ⟨ρ2, μ2, e, a1, a2, a3, a4, a5, a6, a7, a8, a9, a10, a11, a12, rfl⟩ := forS_inv (t := tName 1) (b := l_law_86) (fun ρ _ => ∃ a1 a2 a3 a4 a5 a6 a7 a8 a9 a10 a11 a12, ρ = [some (.scr ns), a1, a2, a3, a4, a5, a6, a7, a8, a9, a10, a11, a12])
    ((List.range m.toNat).map fun i => D.int (0 + (i : Nat))) [some (.scr ns), none, none, none, none, none, none, none, none, none, none, none, none] [] ⟨_, _, _, _, _, _, _, _, _, _, _, _, rfl⟩ (by
      rintro d hd ρ μ ⟨a1, a2, a3, a4, a5, a6, a7, a8, a9, a10, a11, a12, rfl⟩
      obtain ⟨i, hi, rfl⟩ := List.mem_map.mp hd
      have hi' : i < m.toNat := List.mem_range.mp hi
      obtain ⟨ρ2, μ2, e, h⟩ := turn_ok (ns := ns) (k := 0 + (i : Nat)) (by omega) (by omega) a2 a3 a4 a5 a6 a7 a8 a9 a10 a11 a12 μ
      exact ⟨_, rfl, ρ2, μ2, .inl e, h⟩)
  refine ⟨μ2, ?_⟩
  have hr : rngD1 [.int m] = some ((List.range m.toNat).map fun i => D.int (0 + (i : Nat))) := by
    unfold rngD1
    simp only
    rw [if_pos ⟨by omega, by omega⟩]
  have s1 : sFor (iArgs rngD1 (aCons (mCall (on2 dMax2) (aCons (mC (.int 1)) (aCons (mCall (on2 dMin2) (aCons (mCall (on1 dLen) (aCons (mVar 0) aNil)) (aCons (mC (.int 8)) aNil))) aNil))) aNil)) (tName 1) l_law_86 [some (.scr ns), none, none, none, none, none, none, none, none, none, none, none, none] [] = .ok (.next [some (.scr ns), a1, a2, a3, a4, a5, a6, a7, a8, a9, a10, a11, a12]) μ2 := by
    rw [← e]
    simp only [x_for, x_iargs, x_aCons, x_aNil, x_bnd', x_call, x_c, x_ret, x_var, List.getElem?_cons_zero, x_on1, x_lenscr, x_on2, x_min, x_max, x_then]
    have hr' := hr
    simp only [m] at hr' ⊢
    rw [hr']
    rfl
  have s2 : ∀ μ, sRet (mAnd (mOp dEq (mFn0 f_read_page (aCons (mC (.str "-")) aNil)) (mTup aNil)) (mOp dEq (mFn0 f_show_page (aCons (mTup aNil) aNil)) (mC (.str "-")))) [some (.scr ns), a1, a2, a3, a4, a5, a6, a7, a8, a9, a10, a11, a12] μ = .ok (.ret (.bl true)) μ := by
    intro μ
    kernel_rfl
  have s3 : b_law [some (.scr ns), none, none, none, none, none, none, none, none, none, none, none, none] [] = .ok (.ret (.bl true)) μ2 := by
    unfold b_law
    rw [seq_ok s1]
    exact s2 μ2
  show (match b_law [some (.scr ns), none, none, none, none, none, none, none, none, none, none, none, none] [] with
    | .ok (.next _) μ' => Res.ok D.non μ'
    | .ok (.ret d) μ' => .ok d μ'
    | .ok _ _ => .bad
    | .exc c d _ μ' => .exc c d μ'
    | .bad => .bad) = _
  rw [s3]
end FL.K01

namespace FL.K01
open PySem L2 PyProof.Rows PySem.Spec
theorem fin {w : World} {K : PySem.W.Frag} {mg : Str → Option Value} {h : Heap} {fa : Addr} (X : K.In h) (G : h.Ns mainGlobals mg) (c : SaysF P fas fns ers exs K) (hfa : mg "law" = some (.ref fa)) :
    ∃ (K : PySem.W.Frag) (fd : FuncData) (φ : List D → M D), K.In h ∧ noL K ∧ (∀ c ∈ clsNames, ∀ c' ∈ clsNames, He.ga K c ≠ 0 → He.ga K c = He.ga K c' → c = c') ∧ (∀ (s : Shared) (u : Value), BindsTo s fd ⟨[u], []⟩ [("_law_script", u)]) ∧
      (∀ ns : List Int, ns.length ≤ 63 → ∃ μ, φ [.scr ns] [] = .ok (.bl true) μ) ∧ ∀ base : Heap, K.In base → base.Ns mainGlobals mg → FnG P w K mg base 6 fa fd ["_law_script"] φ := by
  have T := tx_of X G c
  obtain ⟨fd, F⟩ := T.F_law
  have e := hfa.symm.trans T.g_law
  cases e
  have b := FunD.bindsA (ps := ["_law_script"]) F fun _ _ _ _ _ _ us hl => match us, hl with | [_], _ => rfl
  exact ⟨K, fd, f_law, X, c.nl, (exs_ok c.more).2.1, fun s v => b s [v] rfl, pure_law, fun base _ _ => ok_law T F⟩
end FL.K01
open PySem PySem.W PySem.Calls PyProof.Rows
theorem PySem.Challenge.cw_surelyhas_k01_lines_pages_and_words_holds : PySem.Challenge.rw_surelyhas_k01_lines_pages_and_words.Holds := by
  w_on; o_law
  refine HandSHeadRun.head_any (r := OpenLaw.row PySem.Challenge.rw_surelyhas_k01_lines_pages_and_words) (q := view (OpenLaw.row PySem.Challenge.rw_surelyhas_k01_lines_pages_and_words).prog [25]) (H := FL.K01.hk) (ob := FL.K01.ob) (M := 3000) (loose := FL.K01.lo) (d := HandSHeadRun.topDef (OpenLaw.row PySem.Challenge.rw_surelyhas_k01_lines_pages_and_words).prog 25) (kwd := []) FL.K01.ob_eq
    (by kernel_rfl) (fun s => by kernel_rfl) FL.K01.run (by kernel_rfl) (by kernel_rfl) (by kernel_rfl) (by rfl) (by first | assumption | decide +kernel) (by decide +kernel) ⟨rfl, rfl, rfl, rfl, rfl, by decide +kernel⟩ ?hw ?hc
  case hw => w_witness2
  case hc =>
    refine FL.walkG (l := PySem.Challenge.rw_surelyhas_k01_lines_pages_and_words) (n := 63) (k := 6) (x := "_law_script") rfl (by decide) (by kernel_rfl) ⟨rfl, by decide, by decide⟩ ?F
    intro w mg fa h Y G hmg0
    obtain ⟨K, KX, c⟩ := Y
    have hmg : mg ("law" : PySem.Str) = some (.ref fa) := by
      have e : (HandSHeadRun.topDef (OpenLaw.row PySem.Challenge.rw_surelyhas_k01_lines_pages_and_words).prog 25).name = ("law" : PySem.Str) := by kernel_rfl
      rw [← e]
      exact hmg0
    exact FL.K01.fin KX G c hmg
