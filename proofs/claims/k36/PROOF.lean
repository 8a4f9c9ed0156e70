import PyProof.Rows.All
import Wide.All
import OpenK.AllK
import Wide.FinOn
import HandS.ForMost
import HandS.Wide
import HandS.IsInst
import HandS.FStr
import HandS.Zip
import HandS.SortInts
import HandS.TupAny
import HandS.TupMul
import HandS.Style
import HandS.NoneIn
import HandS.EndBits
import HandS.Small
import HandS.SortRule
import HandS.Deep
import HandS.Conv
import HandS.TupLe
import HandS.TupSets
import HandS.Strs
import HandS.SetFor
import HandS.DictComp
import KE.DatumOrd
import KE.GoesEnum
import KE.KDictPairs
import PySem.Challenge.RW_versionjudge_k36_problems_bars_and_choic
set_option Elab.async false
set_option linter.all false
set_option maxRecDepth 100000
set_option maxHeartbeats 1000000
/-! Values as trees: a mutable object is owned by one place; tuples and frozen lists are shared. -/
namespace MP
open PySem PySem.Spec PyProof.Rows L2

inductive D where
  | bot | non | bl (b : Bool) | int (i : Int) | str (s : Str)
  | tup (xs : List D) | lst (xs : List D) | fl (xs : List D)
  | pr (xs : List D)
  | fd (ks : List Key) (xs : List D)
  | dct (ks : List Key) (xs : List D)
  | ins (c : Str) (fs : List Str) (xs : List D)

/-- not a mutable object, and known -/
def D.im : D → Bool
  | .bot => false
  | .lst _ => false
  | .dct _ _ => false
  | .ins _ _ _ => false
  | _ => true
def D.kids : D → List D
  | .tup xs => xs | .lst xs => xs | .fl xs => xs | .dct _ xs => xs | .fd _ xs => xs | .ins _ _ xs => xs | _ => []
def D.withKids : D → List D → D
  | .tup _, xs => .tup xs | .lst _, xs => .lst xs | .fl _, xs => .fl xs | .dct ks _, xs => .dct ks xs | .ins c fs _, xs => .ins c fs xs | d, _ => d
/-- a mutable container -/
def D.mut : D → Bool
  | .lst _ => true | .dct _ _ => true | .ins _ _ _ => true | _ => false

abbrev Cnt := Addr → Nat
def one (p : Addr) : Cnt := fun a => if a = p then 1 else 0
theorem one_self (p : Addr) : one p p = 1 := if_pos rfl
theorem one_ne {p a : Addr} (h : a ≠ p) : one p a = 0 := if_neg h

/-- a frozen list -/
def FzL (K : W.Frag) (Z : Addr → Prop) (H : Hp) (p : Addr) (us : List V) : Prop :=
  (H p = some (.lst us) ∧ Z p) ∨ (∃ o, H p = some (.frz o (.lst us))) ∨
    ∃ (o : Obj) (its : Array Value) (n : Nat), K.lookup p = some o ∧ o.cls = .type "list" ∧ o.dict = none ∧ o.data = .seq its n ∧ its.size ≤ sizeLine ∧ Vals us its.toList
theorem FzL.seq {K : W.Frag} {Z : Addr → Prop} {H : Hp} {p : Addr} {us : List V} (h : FzL K Z H p us) : SqL K H p us := by
  rcases h with ⟨h, _⟩ | ⟨o, h⟩ | h
  · exact .inl (.inl h)
  · exact .inl (.inr ⟨o, h⟩)
  · exact .inr h

/-- a frozen dict -/
def FzD (Z : Addr → Prop) (H : Hp) (p : Addr) (kvs : List (Key × V)) : Prop := (∃ o, H p = some (.frz o (.dK kvs))) ∨ (H p = some (.dK kvs) ∧ Z p)
theorem FzD.rd {Z : Addr → Prop} {H : Hp} {p : Addr} {kvs : List (Key × V)} (h : FzD Z H p kvs) : Rd H p (.dK kvs) := by
  rcases h with h | ⟨h, _⟩
  · exact .inr h
  · exact .inl h
/-- a tuple whose object is known to have no dict of its own -/
def SqP (K : W.Frag) (H : Hp) (p : Addr) (us : List V) : Prop :=
  (∃ o : Obj, o.dict = none ∧ H p = some (.frz o (.tup us))) ∨
    ∃ (o : Obj) (its : Array Value) (n : Nat), o.dict = none ∧ K.lookup p = some o ∧ o.cls = .type "tuple" ∧ o.data = .seq its n ∧ its.size ≤ sizeLine ∧ Vals us its.toList
theorem SqP.seq {K : W.Frag} {H : Hp} {p : Addr} {us : List V} (h : SqP K H p us) : SqT K H p us := by
  rcases h with ⟨o, _, h⟩ | ⟨o, its, n, _, h1, h2, h3, h4, h5⟩
  · exact .inl (.inr ⟨o, h⟩)
  · exact .inr ⟨o, its, n, h1, h2, h3, h4, h5⟩
inductive Own (K : W.Frag) (Z : Addr → Prop) (H : Hp) : List V → List D → Cnt → Prop
  | nil : Own K Z H [] [] (fun _ => 0)
  | bot {v vs ds c} : Own K Z H vs ds c → Own K Z H (v :: vs) (.bot :: ds) c
  | non {vs ds c} : Own K Z H vs ds c → Own K Z H (.non :: vs) (.non :: ds) c
  | bl {b vs ds c} : Own K Z H vs ds c → Own K Z H (.bl b :: vs) (.bl b :: ds) c
  | int {i vs ds c} : Own K Z H vs ds c → Own K Z H (.int i :: vs) (.int i :: ds) c
  | str {x vs ds c} : Own K Z H vs ds c → Own K Z H (.str x :: vs) (.str x :: ds) c
  | pr {p us es vs ds c} : SqT K H p us → Own K Z H us es (fun _ => 0) → Own K Z H vs ds c → Own K Z H (.ref p :: vs) (.pr es :: ds) c
  | fd {p kvs ks es vs ds c} : FzD Z H p kvs → kvs.map (·.1) = ks → ks.Nodup → Own K Z H (kvs.map (·.2)) es (fun _ => 0) → Own K Z H vs ds c → Own K Z H (.ref p :: vs) (.fd ks es :: ds) c
  | tup {p us es vs ds c} : SqP K H p us → Own K Z H us es (fun _ => 0) → Own K Z H vs ds c → Own K Z H (.ref p :: vs) (.tup es :: ds) c
  | fl {p us es vs ds c} : FzL K Z H p us → Own K Z H us es (fun _ => 0) → Own K Z H vs ds c → Own K Z H (.ref p :: vs) (.fl es :: ds) c
  | lst {p us es b vs ds c} : H p = some (.lst us) → Own K Z H us es b → Own K Z H vs ds c → Own K Z H (.ref p :: vs) (.lst es :: ds) (fun a => (one p a + b a) + c a)
  | dct {p kvs ks es b vs ds c} : H p = some (.dK kvs) → kvs.map (·.1) = ks → ks.Nodup → Own K Z H (kvs.map (·.2)) es b → Own K Z H vs ds c → Own K Z H (.ref p :: vs) (.dct ks es :: ds) (fun a => (one p a + b a) + c a)

section
variable {K : W.Frag} {Z Z' : Addr → Prop} {H H' : Hp} {vs ws : List V} {ds es : List D} {c c' : Cnt} {v : V} {d : D}

theorem Own.len (h : Own K Z H vs ds c) : vs.length = ds.length := by
  induction h <;> simp_all
theorem Own.cast (h : Own K Z H vs ds c) (e : ∀ a, c a = c' a) : Own K Z H vs ds c' := by
  have : c = c' := funext e
  subst this; exact h

/-- what never changes -/
def Still (Z : Addr → Prop) (a : Addr) (o : HO) : Prop := (∃ us, o = .tup us) ∨ (∃ ob u, o = .frz ob u) ∨ Z a
theorem SqT.still {p : Addr} {us : List V} (h : SqT K H p us) (ht : ∀ a o, H a = some o → Still Z a o → H' a = some o) : SqT K H' p us := by
  rcases h with (h | ⟨o, h⟩) | h
  · exact .inl (.inl (ht _ _ h (.inl ⟨_, rfl⟩)))
  · exact .inl (.inr ⟨o, ht _ _ h (.inr (.inl ⟨_, _, rfl⟩))⟩)
  · exact .inr h
theorem SqP.still {p : Addr} {us : List V} (h : SqP K H p us) (ht : ∀ a o, H a = some o → Still Z a o → H' a = some o) : SqP K H' p us := by
  rcases h with ⟨o, h0, h⟩ | h
  · exact .inl ⟨o, h0, ht _ _ h (.inr (.inl ⟨_, _, rfl⟩))⟩
  · exact .inr h
theorem FzD.still {p : Addr} {kvs : List (Key × V)} (h : FzD Z H p kvs) (ht : ∀ a o, H a = some o → Still Z a o → H' a = some o) (hz : ∀ a, Z a → Z' a) : FzD Z' H' p kvs := by
  rcases h with ⟨o, h⟩ | ⟨h, z⟩
  · exact .inl ⟨o, ht _ _ h (.inr (.inl ⟨_, _, rfl⟩))⟩
  · exact .inr ⟨ht _ _ h (.inr (.inr z)), hz _ z⟩
theorem FzL.still {p : Addr} {us : List V} (h : FzL K Z H p us) (ht : ∀ a o, H a = some o → Still Z a o → H' a = some o) (hz : ∀ a, Z a → Z' a) : FzL K Z' H' p us := by
  rcases h with ⟨h, z⟩ | ⟨o, h⟩ | h
  · exact .inl ⟨ht _ _ h (.inr (.inr z)), hz _ z⟩
  · exact .inr (.inl ⟨o, ht _ _ h (.inr (.inl ⟨_, _, rfl⟩))⟩)
  · exact .inr (.inr h)
theorem Own.keep (h : Own K Z H vs ds c) (hc : ∀ a, 0 < c a → H' a = H a) (ht : ∀ a o, H a = some o → Still Z a o → H' a = some o) (hz : ∀ a, Z a → Z' a) : Own K Z' H' vs ds c := by
  induction h with
  | nil => exact .nil
  | bot _ ih => exact .bot (ih hc)
  | non _ ih => exact .non (ih hc)
  | bl _ ih => exact .bl (ih hc)
  | int _ ih => exact .int (ih hc)
  | str _ ih => exact .str (ih hc)
  | pr q _ _ i1 i2 => exact .pr (SqT.still q ht) (i1 (fun a ha => absurd ha (Nat.lt_irrefl 0))) (i2 hc)
  | fd q hk hn _ _ i1 i2 => exact .fd (FzD.still q ht hz) hk hn (i1 (fun a ha => absurd ha (Nat.lt_irrefl 0))) (i2 hc)
  | tup q _ _ i1 i2 => exact .tup (SqP.still q ht) (i1 (fun a ha => absurd ha (Nat.lt_irrefl 0))) (i2 hc)
  | fl q _ _ i1 i2 => exact .fl (FzL.still q ht hz) (i1 (fun a ha => absurd ha (Nat.lt_irrefl 0))) (i2 hc)
  | lst q _ _ i1 i2 =>
    rename_i p _ _ _ _ _ _ _ _
    exact .lst ((hc p (by simp only [one_self]; omega)).trans q) (i1 fun a ha => hc a (by dsimp only; omega)) (i2 fun a ha => hc a (by dsimp only; omega))
  | dct q hk hn _ _ i1 i2 =>
    rename_i p _ _ _ _ _ _ _ _ _
    exact .dct ((hc p (by simp only [one_self]; omega)).trans q) hk hn (i1 fun a ha => hc a (by dsimp only; omega)) (i2 fun a ha => hc a (by dsimp only; omega))
/-- an owned address holds a mutable object -/
theorem Own.mutAt (h : Own K Z H vs ds c) {a : Addr} (ha : 0 < c a) : (∃ us, H a = some (.lst us)) ∨ (∃ kvs, H a = some (.dK kvs)) ∨ ∃ C dx fs, H a = some (.ins C dx fs) := by
  induction h with
  | nil => exact absurd ha (Nat.lt_irrefl 0)
  | bot _ ih => exact ih ha
  | non _ ih => exact ih ha
  | bl _ ih => exact ih ha
  | int _ ih => exact ih ha
  | str _ ih => exact ih ha
  | pr _ _ _ _ i2 => exact i2 ha
  | fd _ _ _ _ _ _ i2 => exact i2 ha
  | tup _ _ _ _ i2 => exact i2 ha
  | fl _ _ _ _ i2 => exact i2 ha
  | lst q _ _ i1 i2 =>
    rename_i p _ _ b _ _ c' _ _
    by_cases e : a = p
    · subst e; exact .inl ⟨_, q⟩
    · have ha : 0 < (one p a + b a) + c' a := ha
      rw [one_ne e] at ha
      by_cases hb : 0 < b a
      · exact i1 hb
      · exact i2 (by omega)
  | dct q hk hn _ _ i1 i2 =>
    rename_i p _ _ _ b _ _ c' _ _
    by_cases e : a = p
    · subst e; exact .inr (.inl ⟨_, q⟩)
    · have ha : 0 < (one p a + b a) + c' a := ha
      rw [one_ne e] at ha
      by_cases hb : 0 < b a
      · exact i1 hb
      · exact i2 (by omega)
theorem Own.isSome (h : Own K Z H vs ds c) {a : Addr} (ha : 0 < c a) : H a ≠ none := by
  rcases h.mutAt ha with ⟨_, e⟩ | ⟨_, e⟩ | ⟨_, _, _, e⟩ <;> rw [e] <;> exact fun z => by cases z
theorem Own.noStill (h : Own K Z H vs ds c) {a : Addr} {o : HO} (ha : 0 < c a) (e : H a = some o) (s : Still (fun _ => False) a o) : False := by
  rcases s with ⟨us, rfl⟩ | ⟨ob, u, rfl⟩ | z
  · rcases h.mutAt ha with ⟨_, q⟩ | ⟨_, q⟩ | ⟨_, _, _, q⟩ <;> rw [q] at e <;> cases e
  · rcases h.mutAt ha with ⟨_, q⟩ | ⟨_, q⟩ | ⟨_, _, _, q⟩ <;> rw [q] at e <;> cases e
  · exact z

/-! ### one and the rest -/
theorem Own.app (h : Own K Z H vs ds c) {vs' : List V} {ds' : List D} {c' : Cnt} (h' : Own K Z H vs' ds' c') : Own K Z H (vs ++ vs') (ds ++ ds') (fun a => c a + c' a) := by
  induction h with
  | nil => exact h'.cast fun a => by simp
  | bot _ ih => exact .bot ih
  | non _ ih => exact .non ih
  | bl _ ih => exact .bl ih
  | int _ ih => exact .int ih
  | str _ ih => exact .str ih
  | pr q x _ _ i2 => exact .pr q x i2
  | fd q hk hn x _ _ i2 => exact .fd q hk hn x i2
  | tup q x _ _ i2 => exact .tup q x i2
  | fl q x _ _ i2 => exact .fl q x i2
  | lst q x _ _ i2 => exact (Own.lst q x i2).cast fun a => by simp only []; omega
  | dct q hk hn x _ _ i2 => exact (Own.dct q hk hn x i2).cast fun a => by simp only []; omega
theorem Own.cons (h1 : Own K Z H [v] [d] c) {c' : Cnt} (h2 : Own K Z H vs ds c') : Own K Z H (v :: vs) (d :: ds) (fun a => c a + c' a) := Own.app h1 h2
theorem Own.uncons (h : Own K Z H (v :: vs) (d :: ds) c) : ∃ c1 c2, Own K Z H [v] [d] c1 ∧ Own K Z H vs ds c2 ∧ ∀ a, c a = c1 a + c2 a := by
  cases h with
  | bot h => exact ⟨fun _ => 0, c, .bot .nil, h, fun a => by simp⟩
  | non h => exact ⟨fun _ => 0, c, .non .nil, h, fun a => by simp⟩
  | bl h => exact ⟨fun _ => 0, c, .bl .nil, h, fun a => by simp⟩
  | int h => exact ⟨fun _ => 0, c, .int .nil, h, fun a => by simp⟩
  | str h => exact ⟨fun _ => 0, c, .str .nil, h, fun a => by simp⟩
  | pr q x h => exact ⟨fun _ => 0, c, .pr q x .nil, h, fun a => by simp⟩
  | fd q hk hn x h => exact ⟨fun _ => 0, c, .fd q hk hn x .nil, h, fun a => by simp⟩
  | tup q x h => exact ⟨fun _ => 0, c, .tup q x .nil, h, fun a => by simp⟩
  | fl q x h => exact ⟨fun _ => 0, c, .fl q x .nil, h, fun a => by simp⟩
  | lst q x h => exact ⟨_, _, (Own.lst q x .nil), h, fun a => by simp⟩
  | dct q hk hn x h => exact ⟨_, _, (Own.dct q hk hn x .nil), h, fun a => by simp⟩
theorem Own.split : ∀ {ds ds' : List D} {vs : List V} {c : Cnt}, Own K Z H vs (ds ++ ds') c → ∃ vs1 vs2 c1 c2, vs = vs1 ++ vs2 ∧ Own K Z H vs1 ds c1 ∧ Own K Z H vs2 ds' c2 ∧ ∀ a, c a = c1 a + c2 a
  | [], ds', vs, c, h => ⟨[], vs, fun _ => 0, c, rfl, .nil, h, fun a => by simp⟩
  | d :: ds, ds', vs, c, h => by
    cases vs with
    | nil => have := h.len; simp at this
    | cons v vs =>
      obtain ⟨c1, c2, h1, h2, e⟩ := Own.uncons (ds := ds ++ ds') h
      obtain ⟨v1, v2, c3, c4, rfl, h3, h4, e'⟩ := Own.split h2
      exact ⟨v :: v1, v2, _, c4, rfl, Own.cons h1 h3, h4, fun a => by rw [e a, e' a]; omega⟩
theorem Own.split2 {vs vs' : List V} {ds ds' : List D} (h : Own K Z H (vs ++ vs') (ds ++ ds') c) (hl : vs.length = ds.length) : ∃ c1 c2, Own K Z H vs ds c1 ∧ Own K Z H vs' ds' c2 ∧ ∀ a, c a = c1 a + c2 a := by
  obtain ⟨v1, v2, c1, c2, e, h1, h2, q⟩ := Own.split h
  have l := h1.len
  obtain ⟨e1, e2⟩ := List.append_inj e (by omega)
  subst e1 e2
  exact ⟨c1, c2, h1, h2, q⟩
/-- the item at i, and what replaces it -/
theorem Own.at : ∀ {ds : List D} {vs : List V} {c : Cnt} {i : Nat} {d : D}, Own K Z H vs ds c → ds[i]? = some d → ∃ (v : V) (b r : Cnt), vs[i]? = some v ∧ Own K Z H [v] [d] b ∧ (∀ a, c a = b a + r a) ∧
    ∀ (Z' : Addr → Prop) (H' : Hp) (d' : D) (b' : Cnt), Own K Z' H' [v] [d'] b' → (∀ a, 0 < r a → H' a = H a) → (∀ a o, H a = some o → Still Z a o → H' a = some o) → (∀ a, Z a → Z' a) → Own K Z' H' vs (ds.set i d') (fun a => b' a + r a)
  | [], _, _, _, _, _, e => by simp at e
  | d0 :: ds, vs, c, i, d, h, e => by
    cases vs with
    | nil => have := h.len; simp at this
    | cons v vs =>
      obtain ⟨c1, c2, h1, h2, q⟩ := Own.uncons h
      cases i with
      | zero =>
        have e' : d0 = d := by simpa using e
        subst e'
        exact ⟨v, c1, c2, rfl, h1, q, fun Z' H' d' b' hn hr ht hz => Own.cons hn (h2.keep hr ht hz)⟩
      | succ i =>
        obtain ⟨w, b, r, e1, h3, q', f⟩ := Own.at (i := i) h2 (by simpa using e)
        refine ⟨w, b, fun a => c1 a + r a, by simpa using e1, h3, fun a => by have := q a; have := q' a; dsimp only; omega, fun Z' H' d' b' hn hr ht hz => ?_⟩
        exact (Own.cons (h1.keep (fun a ha => hr a (by simp only []; omega)) ht hz) (f Z' H' d' b' hn (fun a ha => hr a (by simp only []; omega)) ht hz)).cast fun a => by simp only []; omega
end

/-! ### places -/
def getP : List D → List Nat → Option D
  | _, [] => none
  | ds, [i] => ds[i]?
  | ds, i :: p => match ds[i]? with
    | some d => getP d.kids p
    | none => none
def setP : List D → List Nat → D → List D
  | ds, [], _ => ds
  | ds, [i], d' => ds.set i d'
  | ds, i :: p, d' => match ds[i]? with
    | some d => ds.set i (d.withKids (setP d.kids p d'))
    | none => ds
def kidsV (o : HO) : List V := match o with
  | .lst us => us | .tup us => us | .dK kvs => kvs.map (·.2) | .ins _ _ fs => fs.map (·.2) | _ => []
/-- the value at a place -/
def locV (H : Hp) : List V → List Nat → Option V
  | _, [] => none
  | vs, [i] => vs[i]?
  | vs, i :: p => match vs[i]? with
    | some (.ref a) => (match H a with
      | some o => locV H (kidsV o) p
      | none => none)
    | _ => none
section
variable {K : W.Frag} {Z Z' : Addr → Prop} {H H' : Hp} {c c' : Cnt}
theorem setP_len (d' : D) : ∀ (p : List Nat) (ds : List D), (setP ds p d').length = ds.length
  | [], _ => rfl
  | [i], ds => by simp [setP]
  | i :: j :: p, ds => by
    unfold setP
    cases ds[i]? <;> simp
/-- only containers that are mutable lie on the way -/
def wayM : List D → List Nat → Bool
  | _, [] => true
  | _, [_] => true
  | ds, i :: p => match ds[i]? with
    | some d => d.mut && wayM d.kids p
    | none => false
theorem Own.focus : ∀ {p : List Nat} {ds : List D} {vs : List V} {c : Cnt} {d : D}, Own K Z H vs ds c → getP ds p = some d → wayM ds p = true → ∃ (v : V) (b r : Cnt), locV H vs p = some v ∧ Own K Z H [v] [d] b ∧ (∀ a, c a = b a + r a) ∧
    ∀ (Z' : Addr → Prop) (H' : Hp) (d' : D) (b' : Cnt), Own K Z' H' [v] [d'] b' → (∀ a, 0 < r a → H' a = H a) → (∀ a o, H a = some o → Still Z a o → H' a = some o) → (∀ a, Z a → Z' a) → Own K Z' H' vs (setP ds p d') (fun a => b' a + r a)
  | [], _, _, _, _, _, e, _ => by simp [getP] at e
  | [i], ds, vs, c, d, h, e, _ => by
    obtain ⟨v, b, r, e1, h1, q, f⟩ := h.at (show ds[i]? = some d from e)
    exact ⟨v, b, r, e1, h1, q, f⟩
  | i :: j :: p, ds, vs, c, d, h, e, m => by
    unfold getP at e
    unfold wayM at m
    cases e0 : ds[i]? with
    | none => rw [e0] at e; cases e
    | some d0 =>
      rw [e0] at e m
      simp only [Bool.and_eq_true] at e m
      obtain ⟨v0, b0, r0, e1, h1, q0, f0⟩ := h.at e0
      cases d0 with
      | bot => simp [D.mut] at m
      | non => simp [D.mut] at m
      | bl _ => simp [D.mut] at m
      | int _ => simp [D.mut] at m
      | str _ => simp [D.mut] at m
      | fd _ _ => simp [D.mut] at m
      | tup _ => simp [D.mut] at m
      | pr _ => simp [D.mut] at m
      | fl _ => simp [D.mut] at m
      | ins _ _ _ => cases h1
      | lst es =>
        cases h1 with
        | lst hq hx hy =>
          rename_i p0 us b1 c1
          cases hy
          obtain ⟨v, b, r, e2, h2, q2, f2⟩ := Own.focus (p := j :: p) hx e m.2
          refine ⟨v, b, fun a => one p0 a + r a + r0 a, ?_, h2, fun a => by have := q0 a; have := q2 a; dsimp only at *; omega, fun Z' H' d' b' hn hr ht hz => ?_⟩
          · unfold locV; rw [e1]; simp only []; rw [hq]; exact e2
          · have h3 := f2 Z' H' d' b' hn (fun a ha => hr a (by simp only []; omega)) ht hz
            have h4 : Own K Z' H' [.ref p0] [.lst (setP es (j :: p) d')] _ := Own.lst ((hr p0 (by simp only [one_self]; omega)).trans hq) h3 .nil
            have h5 := f0 Z' H' _ _ h4 (fun a ha => hr a (by simp only []; omega)) ht hz
            have e5 : setP ds (i :: j :: p) d' = ds.set i (.lst (setP es (j :: p) d')) := by
              conv => lhs; unfold setP
              rw [e0]; rfl
            rw [e5]
            exact h5.cast fun a => by simp only []; omega
      | dct ks es =>
        cases h1 with
        | dct hq hk hnd hx hy =>
          rename_i p0 kvs b1 c1
          cases hy
          obtain ⟨v, b, r, e2, h2, q2, f2⟩ := Own.focus (p := j :: p) hx e m.2
          refine ⟨v, b, fun a => one p0 a + r a + r0 a, ?_, h2, fun a => by have := q0 a; have := q2 a; dsimp only at *; omega, fun Z' H' d' b' hn hr ht hz => ?_⟩
          · unfold locV; rw [e1]; simp only []; rw [hq]; exact e2
          · have h3 := f2 Z' H' d' b' hn (fun a ha => hr a (by simp only []; omega)) ht hz
            have h4 : Own K Z' H' [.ref p0] [.dct ks (setP es (j :: p) d')] _ := Own.dct ((hr p0 (by simp only [one_self]; omega)).trans hq) hk hnd h3 .nil
            have h5 := f0 Z' H' _ _ h4 (fun a ha => hr a (by simp only []; omega)) ht hz
            have e5 : setP ds (i :: j :: p) d' = ds.set i (.dct ks (setP es (j :: p) d')) := by
              conv => lhs; unfold setP
              rw [e0]; rfl
            rw [e5]
            exact h5.cast fun a => by simp only []; omega
end
end MP

set_option Elab.async false
set_option linter.all false
set_option maxRecDepth 100000
set_option maxHeartbeats 1000000
/-! A small Python by places: expressions and statements with their weakest preconditions over trees. -/
namespace MP
open PySem PySem.Spec PyProof.Rows L2

inductive RV where
  | val (d : D)
  | ref (p : List Nat)
def nb : Option D → Option D
  | some .bot => none
  | o => o
def rd (σ : List D) : RV → Option D
  | .val d => some d
  | .ref p => nb (getP σ p)
theorem nb_some {o : Option D} {d : D} (h : nb o = some d) : o = some d ∧ d ≠ .bot := by
  cases o with
  | none => cases h
  | some x => cases x <;> first | (exact absurd (show (none : Option D) = some d from h) (by simp)) | (have h := Option.some.inj h; subst h; exact ⟨rfl, fun z => by cases z⟩)

abbrev KD := D → Prop
/-- a branch -/
def br (b : Bool) (A B : Prop) : Prop := (b = true → A) ∧ (b = false → B)
abbrev OutK := D → List D → Prop
abbrev FnS := List D → OutK → OutK → Prop

def imAll (xs : List D) : Bool := xs.all D.im
def big : Nat := 16777216

/-! ### operators on trees -/
def intK (f : Int → Int → D) (C : Int → Int → Prop) : D → D → KD → Prop
  | .int i, .int j, k => C i j ∧ k (f i j)
  | _, _, _ => False
def intK0 (f : Int → Int → D) : D → D → KD → Prop
  | .int i, .int j, k => k (f i j)
  | _, _, _ => False
def addS : D → D → KD → Prop
  | .int i, .int j, k => k (.int (i + j))
  | .str x, .str y, k => x.length + y.length ≤ big ∧ k (.str (x ++ y))
  | .tup xs, .tup ys, k => xs.length + ys.length ≤ big ∧ k (.tup (xs ++ ys))
  | .lst xs, .lst ys, k => (imAll xs = true ∧ imAll ys = true ∧ xs.length + ys.length ≤ big) ∧ k (.lst (xs ++ ys))
  | _, _, _ => False
def mulS : D → D → KD → Prop
  | .int i, .int j, k => CMul i j ∧ k (.int (i * j))
  | .tup xs, .int j, k => (xs ≠ [] ∧ 2 ≤ j ∧ j ≤ 1000 ∧ xs.length ≤ 1000) ∧ k (.tup (List.replicate j.toNat xs).flatten)
  | .lst xs, .int j, k => (imAll xs = true ∧ 0 ≤ j ∧ j ≤ 1000 ∧ xs.length ≤ 1000) ∧ k (.lst (List.replicate j.toNat xs).flatten)
  | _, _, _ => False
def binS (op : Operator) (a b : D) (k : KD) : Prop := match op with
  | .Add => addS a b k
  | .Sub => intK0 (fun i j => .int (i - j)) a b k
  | .Mult => mulS a b k
  | .FloorDiv => intK (fun i j => .int (i / j)) CDivW a b k
  | .Mod => intK (fun i j => .int (i % j)) (fun _ j => 0 < j) a b k
  | .Pow => intK (fun i j => .int (i ^ j.toNat)) CPow a b k
  | .LShift => intK (fun i j => .int (i * 2 ^ j.toNat)) CPow a b k
  | .RShift => intK (fun i j => .int (i / 2 ^ j.toNat)) (fun _ j => 0 ≤ j) a b k
  | .BitAnd => intK0 (fun i j => .int (Builtin.bitAnd i j)) a b k
  | .BitOr => intK0 (fun i j => .int (Builtin.bitOr i j)) a b k
  | .BitXor => intK0 (fun i j => .int (Builtin.bitXor i j)) a b k
  | _ => False

/-- a tuple's ints -/
def ints? : List D → Option (List Int)
  | [] => some []
  | .int i :: r => (ints? r).map (i :: ·)
  | _ => none
mutual
def py : D → Option PyData
  | .non => some .none
  | .bl b => some (.bool b)
  | .int i => some (.int i)
  | .str s => some (.str s)
  | .tup xs => (pyAll xs).map .tuple
  | .lst xs => (pyAll xs).map .list
  | .fl xs => (pyAll xs).map .list
  | _ => none
def pyAll : List D → Option (List PyData)
  | [] => some []
  | x :: xs => (py x).bind fun y => (pyAll xs).map (y :: ·)
end
/-- == of scalars -/
def scalD : D → D → Option Bool
  | .non, .non => some true | .non, .int _ => some false | .int _, .non => some false | .non, .bl _ => some false | .bl _, .non => some false | .non, .str _ => some false | .str _, .non => some false
  | .int i, .int j => some (decide (i = j)) | .bl i, .bl j => some (decide (i = j)) | .str i, .str j => some (decide (i = j))
  | .int _, .str _ => some false | .str _, .int _ => some false | .bl _, .str _ => some false | .str _, .bl _ => some false
  | _, _ => none
def eqS (f : Bool → D) (a b : D) (k : KD) : Prop := match scalD a b with
  | some r => k (f r)
  | none => ∃ x y, py a = some x ∧ py b = some y ∧ SeqAt.shaped x = true ∧ SeqAt.shaped y = true ∧ k (f (PyData.eqv x y))
def ltS : D → D → KD → Prop
  | .int i, .int j, k => k (.bl (decide (i < j)))
  | .str i, .str j, k => k (.bl (decide (i.cps.toList < j.cps.toList)))
  | .tup xs, .tup ys, k => ∃ ns ms, ints? xs = some ns ∧ ints? ys = some ms ∧ k (.bl (HT.lexLt ns ms))
  | _, _, _ => False
def leS : D → D → KD → Prop
  | .int i, .int j, k => k (.bl (decide (i ≤ j)))
  | .tup xs, .tup ys, k => ∃ ns ms, ints? xs = some ns ∧ ints? ys = some ms ∧ k (.bl (!HT.lexLt ms ns))
  | _, _, _ => False
def gtS : D → D → KD → Prop
  | .int i, .int j, k => k (.bl (decide (j < i)))
  | _, _, _ => False
def geS : D → D → KD → Prop
  | .int i, .int j, k => k (.bl (decide (j ≤ i)))
  | _, _, _ => False
/-- is None, is True, is False -/
def isNon : D → Bool
  | .non => true
  | _ => false
def isS (f : Bool → D) : D → D → KD → Prop
  | .bot, _, _ => False
  | a, .non, k => k (f (isNon a))
  | .bl i, .bl j, k => k (f (decide (i = j)))
  | _, _, _ => False
/-- scalars that lie in lists -/
def flatD : D → Bool
  | .non => true | .bl _ => true | .int _ => true | .str _ => true | _ => false
def keyOf : D → Option Key
  | .int i => some (.inl i)
  | .str x => some (.inr x)
  | _ => none
def keyD : Key → D
  | .inl i => .int i
  | .inr x => .str x
def kix (ks : List Key) (k : Key) : Option Nat := ks.findIdx? fun k' => decide (k' = k)
def dctK : D → Option (List Key)
  | .dct ks _ => some ks
  | .fd ks _ => some ks
  | _ => none
/-- what a test of membership looks through -/
def seqD : D → Option (List D)
  | .tup xs => some xs | .lst xs => some xs | .fl xs => some xs | _ => none
def inS (f : Bool → D) (a b : D) (k : KD) : Prop := match dctK b with
  | some ks => ∃ key, keyOf a = some key ∧ k (f (kix ks key).isSome)
  | none => (∃ (i : Int) (xs : List D) (ns : List Int), a = .int i ∧ seqD b = some xs ∧ ints? xs = some ns ∧ k (f (ns.contains i))) ∨
    ((∃ x ys, py a = some x ∧ py b = some (.list ys) ∧ SeqAt.shaped x = true ∧ SeqAt.shaped (.list ys) = true ∧ k (f (ys.any fun z => PyData.eqv z x))) ∨
      ∃ x ys, py a = some x ∧ py b = some (.tuple ys) ∧ SeqAt.shaped x = true ∧ SeqAt.shaped (.tuple ys) = true ∧ k (f (ys.any fun z => PyData.eqv z x)))
def cmpS (op : CmpOp) (a b : D) (k : KD) : Prop := match op with
  | .Lt => ltS a b k
  | .LtE => leS a b k
  | .Gt => gtS a b k
  | .GtE => geS a b k
  | .Eq => eqS (fun r => .bl r) a b k
  | .NotEq => eqS (fun r => .bl (!r)) a b k
  | .Is => isS (fun r => .bl r) a b k
  | .IsNot => isS (fun r => .bl (!r)) a b k
  | .In => inS (fun r => .bl r) a b k
  | .NotIn => inS (fun r => .bl (!r)) a b k

/-! ### subscripts -/
/-- the place of an item -/
def ixOf : D → D → Option Nat
  | .tup xs, .int i => ixN xs.length i
  | .lst xs, .int i => ixN xs.length i
  | .fl xs, .int i => ixN xs.length i
  | .dct ks _, d => (keyOf d).bind (kix ks)
  | .fd ks _, d => (keyOf d).bind (kix ks)
  | _, _ => none
def itemS (r : RV) (d : D) (n : Nat) (k : RV → Prop) : Prop := match d.kids[n]? with
  | some e => match e.im, r with
    | true, _ => k (.val e)
    | false, .ref p => (match e.mut && d.mut with
      | true => k (.ref (p ++ [n]))
      | false => False)
    | false, .val _ => False
  | none => False
def cutD (xs : List D) (lo hi : Option Int) : List D := (xs.drop (HT.sIx xs.length 0 lo)).take (HT.sIx xs.length xs.length hi - HT.sIx xs.length 0 lo)
def slcS (d : D) (lo hi : Option Int) (k : KD) : Prop := match d with
  | .tup xs => k (.tup (cutD xs lo hi))
  | .lst xs => imAll (cutD xs lo hi) = true ∧ k (.lst (cutD xs lo hi))
  | .fl xs => k (.lst (cutD xs lo hi))
  | .str x => x.length ≤ big ∧ k (.str (cutS x lo hi))
  | _ => False

/-! ### built-ins -/
inductive Bi where
  | int | len | max2 | min2 | max1 | min1 | abs | list | tuple | repr | all | any | sorted | dict | str
  deriving DecidableEq
/-- a list of bools -/
def bls? : List D → Option (List Bool)
  | [] => some []
  | .bl b :: r => (bls? r).map (b :: ·)
  | _ => none
def lenD : D → Option Nat
  | .tup xs => some xs.length | .lst xs => some xs.length | .fl xs => some xs.length | .str x => some x.length | .dct ks _ => some ks.length | _ => none
def pairD (p : Key × D) : D := .tup [keyD p.1, p.2]
def biS : Bi → List D → KD → Prop
  | .int, [.int i], k => k (.int i)
  | .int, [.bl b], k => k (.int (if b then 1 else 0))
  | .len, [.tup xs], k => k (.int xs.length)
  | .len, [.lst xs], k => k (.int xs.length)
  | .len, [.fl xs], k => k (.int xs.length)
  | .len, [.dct ks _], k => k (.int ks.length)
  | .max2, [.int i, .int j], k => k (.int (if j > i then j else i))
  | .min2, [.int i, .int j], k => k (.int (if j < i then j else i))
  | .max1, [.lst xs], k => ∃ ns, ints? xs = some ns ∧ ns ≠ [] ∧ ∀ m ∈ ns, (∀ y ∈ ns, y ≤ m) → k (.int m)
  | .max1, [.tup xs], k => ∃ ns, ints? xs = some ns ∧ ns ≠ [] ∧ ∀ m ∈ ns, (∀ y ∈ ns, y ≤ m) → k (.int m)
  | .min1, [.lst xs], k => (∃ ns, ints? xs = some ns ∧ ns ≠ [] ∧ ∀ m ∈ ns, (∀ y ∈ ns, m ≤ y) → k (.int m)) ∨
      ∃ qs : List (List Int), xs = qs.map (fun q => D.tup (q.map .int)) ∧ qs ≠ [] ∧ ∀ q ∈ qs, (∀ p ∈ qs, HT.lexLt p q = false) → k (.tup (q.map .int))
  | .min1, [.tup xs], k => ∃ ns, ints? xs = some ns ∧ ns ≠ [] ∧ ∀ m ∈ ns, (∀ y ∈ ns, m ≤ y) → k (.int m)
  | .list, [.lst xs], k => imAll xs = true ∧ k (.lst xs)
  | .list, [.fl xs], k => k (.lst xs)
  | .list, [.tup xs], k => imAll xs = true ∧ k (.lst xs)
  | .list, [.dct ks _], k => k (.lst (ks.map keyD))
  | .list, [.fd ks _], k => k (.lst (ks.map keyD))
  | .tuple, [.lst xs], k => imAll xs = true ∧ k (.tup xs)
  | .tuple, [.fl xs], k => k (.tup xs)
  | .tuple, [.tup xs], k => k (.tup xs)
  | .all, [.lst xs], k => (match bls? xs with
    | some bs => k (.bl (bs.all id))
    | none => False)
  | .any, [.lst xs], k => (match bls? xs with
    | some bs => k (.bl (bs.any id))
    | none => False)
  | .sorted, [.lst xs], k => (∃ ns : List Int, ints? xs = some ns ∧ ∀ ns' : List Int, ns'.Perm ns → ns'.Pairwise (· ≤ ·) → k (.lst (ns'.map D.int))) ∨
      ∃ ps : List (Int × Int), xs = ps.map (fun p => D.tup [.int p.1, .int p.2]) ∧ ∀ ps' : List (Int × Int), ps'.Perm ps → ps'.Pairwise (fun p q => SrtO.lexB q p = false) → k (.lst (ps'.map fun p => D.tup [.int p.1, .int p.2]))
  | .sorted, [.dct ks _], k => ∃ ns : List Int, ks = ns.map Sum.inl ∧ ns.length < 64 ∧ ∀ ns' : List Int, ns'.Perm ns → ns'.Pairwise (· ≤ ·) → k (.lst (ns'.map D.int))
  | .dict, [d], k => ∃ (xs : List D) (kvs : List (Key × D)), seqD d = some xs ∧ xs = kvs.map pairD ∧ (kvs.map (·.1)).Nodup ∧ imAll (kvs.map (·.2)) = true ∧ k (.dct (kvs.map (·.1)) (kvs.map (·.2)))
  | .str, [.int i], k => i.natAbs.log2 < 1920 ∧ k (.str (toString i))
  | .repr, [d], k => ∃ x, py d = some x ∧ PyData.showable x = true ∧ PyData.depth x ≤ 60 ∧ (PyData.shown x).length ≤ big ∧ k (.str (PyData.shown x))
  | _, _, _ => False
/-- a tuple of ints -/
def tupD (q : List Int) : D := .tup (q.map .int)
/-- sorted(set(xs)) -/
def seqTL : D → Option (List D)
  | .tup xs => some xs | .lst xs => some xs | _ => none
def sstS (d : D) (k : KD) : Prop :=
  (∃ xs ns, seqTL d = some xs ∧ ints? xs = some ns ∧ ns.length < 64 ∧ ∀ ls : List Int, ls.Pairwise (· < ·) → (∀ i, i ∈ ls ↔ i ∈ ns) → k (.lst (ls.map .int))) ∨
    ∃ (m : Nat) (B : Int) (qs : List (List Int)), (d = .lst (qs.map tupD) ∨ d = .fl (qs.map tupD)) ∧ qs.length < 64 ∧ 1 ≤ m ∧ (∀ q ∈ qs, q.length = m ∧ ∀ i ∈ q, 0 ≤ i ∧ i < B) ∧
      ∀ ls : List (List Int), ls.Pairwise (fun p q => HT.lexLt p q = true) → (∀ q, q ∈ ls ↔ q ∈ qs) → k (.lst (ls.map tupD))
/-- isinstance of a built-in type -/
def tyName : D → Option String
  | .non => some "NoneType" | .bl _ => some "bool" | .int _ => some "int" | .str _ => some "str" | .tup _ => some "tuple" | .lst _ => some "list" | .fl _ => some "list" | .dct _ _ => some "dict" | .fd _ _ => some "dict" | _ => none
def isiS (T : String) (d : D) : Option Bool := (tyName d).bind fun a => kitB a T
def dctX : D → Option (List Key × List D)
  | .dct ks xs => some (ks, xs)
  | .fd ks xs => some (ks, xs)
  | _ => none
def isDct : Option D → Bool
  | some (.dct _ _) => true
  | _ => false
def isLst : Option D → Bool
  | some (.lst _) => true
  | _ => false
inductive Mt where
  | append | pop | popAt | extend
  deriving DecidableEq
/-- a method of a list at a place: its result and what stands there behind it -/
def mtS : Mt → D → List D → (D → D → Prop) → Prop
  | .append, .lst xs, [d], k => xs.length < big ∧ k .non (.lst (xs ++ [d]))
  | .pop, .lst xs, [], k => match xs[xs.length - 1]? with
    | some d => k d (.lst xs.dropLast)
    | none => False
  | .popAt, .lst xs, [.int i], k => match ixN xs.length i with
    | some n => (match xs[n]? with
      | some d => xs.length ≤ big ∧ k d (.lst (xs.eraseIdx n))
      | none => False)
    | none => False
  | .extend, .lst xs, [.lst ys], k => (imAll ys = true ∧ xs.length + ys.length ≤ big) ∧ k .non (.lst (xs ++ ys))
  | _, _, _, _ => False

/-! ### the text -/
inductive Tg where
  | one (i : Nat)
  | many (is : List Nat)
inductive PX where
  | var (i : Nat) | cst (d : D) | glo (j : Nat)
  | bin (op : Operator) (a b : PX) | neg (a : PX) | not (a : PX)
  | cmp (op : CmpOp) (a b : PX) | chn (op1 op2 : CmpOp) (a b c : PX)
  | and (a b : PX) | or (a b : PX) | ite (c a b : PX)
  | tup (es : PX) | lst (es : PX) | dct (ks : List Key) (es : PX)
  | nil | cons (e es : PX)
  | sub (a i : PX) | slc (a lo hi : PX) | rev (a : PX)
  | call (f : Nat) (es : PX) | callK (f : Nat) (perm : List Nat) (es : PX)
  | bi (b : Bi) (es : PX) | isi (T : String) (a : PX)
  | mth (m : Mt) (a es : PX)
  | lc (elt : PX) (tg : Tg) (it cond : PX) (vs : List Nat)
  | lrg (tp : Bool) (a : PX) | sst (a : PX)
  | dc (kx vx : PX) (tg : Tg) (it cond : PX) (vs : List Nat)
  | dget (a i b : PX)
  | lcd (elt : PX) (tg : Tg) (i : Nat) (cond : PX) (vs : List Nat)
  | frz (a : PX)
  | nile (ne : Bool) (a : PX)
  | itx (a : PX) | rng (a b : PX) | rng3 (a b c : PX) | enum (a : PX) | zip (a b : PX)

/-- no call of a def, no method: nothing changes -/
def quiet : PX → Bool
  | .var _ | .cst _ | .glo _ | .nil => true
  | .bin _ a b | .and a b | .or a b | .cons a b | .sub a b | .cmp _ a b => quiet a && quiet b
  | .neg a | .not a | .rev a | .isi _ a | .bi _ a => quiet a
  | .chn _ _ a b c | .ite a b c | .slc a b c => quiet a && quiet b && quiet c
  | .tup .nil | .lst .nil => true
  | _ => false

/-- taken away from its place -/
def isList : PX → Bool
  | .nil => true
  | .cons _ b => isList b
  | _ => false
def lenX : PX → Nat
  | .cons _ b => lenX b + 1
  | _ => 0
def take (r : RV) (σ : List D) (k : D → List D → Prop) : Prop := match r with
  | .val d => k d σ
  | .ref [i] => (match σ[i]? with
    | some d => k d (σ.set i .bot)
    | none => False)
  | .ref _ => False
def deep : RV → Bool
  | .ref (_ :: _ :: _) => true
  | _ => false
/-- the operand may be read behind b -/
def ok2 (r : RV) (b : PX) : Bool := !deep r || quiet b
def var1 (d : D) (i : Nat) (k : RV → Prop) : Prop := match d.im with
  | true => k (.val d)
  | false => (match d.mut with
    | true => k (.ref [i])
    | false => False)
/-- a slice's part: left out, or an int -/
def isNonC : PX → Bool
  | .cst .non => true
  | _ => false
def optP (p : PX) (r : RV) : Option (Option Int) := match p with
  | .cst .non => some none
  | _ => (match r with
    | .val (.int i) => some (some i)
    | _ => none)
def wipeD (σ : List D) : List Nat → List D
  | [] => σ
  | v :: vs => (wipeD σ vs).set v .bot
/-- stores that change no object: the place is a plain one (not a parameter's object) -/
def okSet (np : Nat) (σ : List D) (i : Nat) : Bool := decide (i < σ.length)
def setK (np : Nat) (i : Nat) (d : D) (σ : List D) (k : List D → Prop) : Prop := match okSet np σ i with
  | true => k (σ.set i d)
  | false => False
def setsK (np : Nat) : List Nat → List D → List D → (List D → Prop) → Prop
  | [], [], σ, k => k σ
  | i :: is, d :: ds, σ, k => (match d.im with
    | true => setK np i d σ fun σ' => setsK np is ds σ' k
    | false => False)
  | _, _, _, _ => False
/-- an item of a walk goes to its target -/
def bindT (np : Nat) (t : Tg) (d : D) (σ : List D) (k : List D → Prop) : Prop := match t with
  | .one i => (match d.im with
    | true => setK np i d σ k
    | false => False)
  | .many is => (match d with
    | .tup es => setsK np is es σ k
    | .pr es => setsK np is es σ k
    | _ => False)
def forL (stays : List D → Prop) (step : D → List D → (List D → Prop) → Prop) : List D → List D → (List D → Prop) → Prop
  | [], σ, k => stays σ ∧ k σ
  | d :: r, σ, k => stays σ ∧ step d σ fun σ' => forL stays step r σ' k
/-- with what is collected -/
def forC (stays : List D → Prop) (step : D → List D → (Option D → List D → Prop) → Prop) : List D → List D → List D → (List D → List D → Prop) → Prop
  | [], acc, σ, k => stays σ ∧ k acc σ
  | d :: r, acc, σ, k => stays σ ∧ step d σ fun o σ' => (match o with
    | some y => acc.length < big ∧ forC stays step r (acc ++ [y]) σ' k
    | none => forC stays step r acc σ' k)
def putD (key : Key) (y : D) : List Key × List D → List Key × List D
  | (ks, xs) => match kix ks key with
    | some n => (ks, xs.set n y)
    | none => (ks ++ [key], xs ++ [y])
/-- with what is collected in a dict -/
def forD (stays : List D → Prop) (step : D → List D → (Option (Key × D) → List D → Prop) → Prop) : List D → List Key × List D → List D → (List Key × List D → List D → Prop) → Prop
  | [], acc, σ, k => stays σ ∧ k acc σ
  | d :: r, acc, σ, k => stays σ ∧ step d σ fun o σ' => (match o with
    | some y => acc.1.length < big ∧ forD stays step r (putD y.1 y.2 acc) σ' k
    | none => forD stays step r acc σ' k)
/-- the names that are handed in as they stand; none if a deeper place is -/
def heads : List RV → Option (List Nat)
  | [] => some []
  | .ref [i] :: r => (heads r).map (i :: ·)
  | .ref _ :: _ => none
  | .val _ :: r => heads r
def nodupB : List Nat → Bool
  | [] => true
  | i :: r => !r.contains i && nodupB r
def headsOk (rs : List RV) : Bool := match heads rs with
  | some l => nodupB l
  | none => false
def rdAll (σ : List D) : List RV → Option (List D)
  | [] => some []
  | r :: rs => (rd σ r).bind fun d => (rdAll σ rs).map (d :: ·)
/-- what a call leaves at the places that were handed in -/
def putOuts (σ : List D) : List RV → List D → List D
  | .ref [i] :: rs, d :: ds => putOuts (σ.set i d) rs ds
  | .val _ :: rs, _ :: ds => putOuts σ rs ds
  | _, _ => σ
def permD {α : Type} (l : List α) : List Nat → Option (List α)
  | [] => some []
  | i :: is => (l[i]?).bind fun d => (permD l is).map (d :: ·)
def intsUp (i : Int) (n : Nat) : List D := (List.range n).map fun (m : Nat) => D.int (i + m)
def stepUp (i l : Int) (n : Nat) : List D := (List.range n).map fun (m : Nat) => D.int (i + m * l)
def enumD (xs : List D) (n : Nat) : List D := match xs with
  | [] => []
  | x :: r => D.pr [.int n, x] :: enumD r (n + 1)
def zipD : List D → List D → List D
  | x :: r, y :: q => D.pr [x, y] :: zipD r q
  | _, _ => []
/-- what is walked: its items, that it stays, the names that are not to be stored while it is walked -/
def walkS (r : RV) (σ : List D) (k : List D → (List D → Prop) → List Nat → Prop) : Prop := match r with
  | .val (.tup xs) => k xs (fun _ => True) []
  | .val (.fl xs) => k xs (fun _ => True) []
  | .val (.lst xs) => k xs (fun _ => True) []
  | .ref [i] => (match σ[i]? with
    | some (.lst xs) => k xs (fun σ' => σ'[i]? = some (.lst xs)) [i]
    | _ => False)
  | _ => False
def isSeq2 : RV → List D → Nat
  | .val (.tup _), _ => 1
  | .val (.fl _), _ => 2
  | .val (.lst _), _ => 2
  | .ref _, _ => 2
  | _, _ => 0

/-- a list against [] -/
def nileB (ne : Bool) (xs : List D) : Bool := match ne with
  | true => !xs.isEmpty
  | false => xs.isEmpty
section
variable (T : List FnS) (G : List D) (np : Nat)
mutual
def wpX : PX → List D → (RV → List D → Prop) → OutK → Prop
  | .var i, σ, k, _ => (match σ[i]? with
    | some d => var1 d i fun r => k r σ
    | none => False)
  | .cst d, σ, k, _ => k (.val d) σ
  | .glo j, σ, k, _ => (match G[j]? with
    | some d => k (.val d) σ
    | none => False)
  | .bin op a b, σ, k, x => wpX a σ (fun ra σ1 => wpX b σ1 (fun rb σ2 => match ok2 ra b with
    | true => (match rd σ2 ra, rd σ2 rb with
      | some da, some db => binS op da db fun d => k (.val d) σ2
      | _, _ => False)
    | false => False) x) x
  | .neg a, σ, k, x => wpX a σ (fun ra σ1 => match ra with
    | .val (.int i) => k (.val (.int (-i))) σ1
    | _ => False) x
  | .not a, σ, k, x => wpX a σ (fun ra σ1 => match ra with
    | .val (.bl b) => k (.val (.bl (!b))) σ1
    | _ => False) x
  | .cmp op a b, σ, k, x => wpX a σ (fun ra σ1 => wpX b σ1 (fun rb σ2 => match ok2 ra b with
    | true => (match rd σ2 ra, rd σ2 rb with
      | some da, some db => cmpS op da db fun d => k (.val d) σ2
      | _, _ => False)
    | false => False) x) x
  | .chn o1 o2 a b c, σ, k, x => wpX a σ (fun ra σ1 => wpX b σ1 (fun rb σ2 => match ok2 ra b && ok2 rb c with
    | true => (match rd σ2 ra, rd σ2 rb with
      | some da, some db => cmpS o1 da db fun d => (match d with
        | .bl t => br t (wpX c σ2 (fun rc σ3 => match rd σ3 rb, rd σ3 rc with
          | some db', some dc => cmpS o2 db' dc fun d => k (.val d) σ3
          | _, _ => False) x) (k (.val (.bl false)) σ2)
        | _ => False)
      | _, _ => False)
    | false => False) x) x
  | .and a b, σ, k, x => wpX a σ (fun ra σ1 => match ra with
    | .val (.bl t) => br t (wpX b σ1 k x) (k (.val (.bl false)) σ1)
    | _ => False) x
  | .or a b, σ, k, x => wpX a σ (fun ra σ1 => match ra with
    | .val (.bl t) => br t (k (.val (.bl true)) σ1) (wpX b σ1 k x)
    | _ => False) x
  | .ite c a b, σ, k, x => wpX c σ (fun rc σ1 => match rc with
    | .val (.bl t) => br t (wpX a σ1 k x) (wpX b σ1 k x)
    | _ => False) x
  | .tup es, σ, k, x => wpTs es σ (fun ds σ1 => (imAll ds = true ∧ ds.length ≤ big) ∧ k (.val (.tup ds)) σ1) x
  | .lst es, σ, k, x => wpTs es σ (fun ds σ1 => ds.length ≤ big ∧ k (.val (.lst ds)) σ1) x
  | .dct ks es, σ, k, x => wpTs es σ (fun ds σ1 => (ks.Nodup ∧ ks.length = ds.length ∧ ks.length ≤ 15) ∧ k (.val (.dct ks ds)) σ1) x
  | .nil, _, _, _ => False
  | .cons _ _, _, _, _ => False
  | .sub a i, σ, k, x => wpX a σ (fun ra σ1 => wpX i σ1 (fun ri σ2 => match ok2 ra i with
    | true => (match rd σ2 ra, rd σ2 ri with
      | some da, some di => (match ixOf da di with
        | some n => itemS ra da n fun r => k r σ2
        | none => False)
      | _, _ => False)
    | false => False) x) x
  | .slc a lo hi, σ, k, x => wpX a σ (fun ra σ1 => wpX lo σ1 (fun rl σ2 => match optP lo rl with
    | some l => wpX hi σ2 (fun rh σ3 => match optP hi rh with
      | some h => (match ok2 ra lo && ok2 ra hi with
        | true => (match rd σ3 ra with
          | some da => slcS da l h fun d => k (.val d) σ3
          | none => False)
        | false => False)
      | none => False) x
    | none => False) x) x
  | .rev a, σ, k, x => wpX a σ (fun ra σ1 => match rd σ1 ra with
    | some (.lst xs) => imAll xs = true ∧ k (.val (.lst xs.reverse)) σ1
    | some (.fl xs) => k (.val (.lst xs.reverse)) σ1
    | some (.tup xs) => k (.val (.tup xs.reverse)) σ1
    | _ => False) x
  | .call f es, σ, k, x => wpXs es σ (fun rs σ1 => match T[f]?, rdAll σ1 rs, headsOk rs with
    | some F, some ds, true => F ds (fun d outs => k (.val d) (putOuts σ1 rs outs)) (fun d outs => x d (putOuts σ1 rs outs))
    | _, _, _ => False) x
  | .callK f perm es, σ, k, x => wpXs es σ (fun rs σ1 => match permD rs perm with
    | some ps => (match T[f]?, rdAll σ1 ps, headsOk ps with
      | some F, some ds, true => F ds (fun d outs => k (.val d) (putOuts σ1 ps outs)) (fun d outs => x d (putOuts σ1 ps outs))
      | _, _, _ => False)
    | none => False) x
  | .bi b es, σ, k, x => wpXs es σ (fun rs σ1 => match rdAll σ1 rs with
    | some ds => biS b ds fun d => k (.val d) σ1
    | none => False) x
  | .isi t a, σ, k, x => wpX a σ (fun ra σ1 => match rd σ1 ra with
    | some d => (match isiS t d with
      | some b => k (.val (.bl b)) σ1
      | none => False)
    | none => False) x
  | .mth m a es, σ, k, x => wpX a σ (fun ra σ1 => match (quiet es || !deep ra) && isLst (rd σ1 ra) with
    | true => wpTs es σ1 (fun ds σ2 => match ra with
      | .ref p => (match getP σ2 p with
        | some d => mtS m d ds fun r d' => k (.val r) (setP σ2 p d')
        | none => False)
      | _ => False) x
    | false => False) x
  | .lc elt tg it cond vs, σ, k, x => wpI it σ (fun xs st hs σ1 => (hs.all fun i => !vs.contains i) = true ∧ forC st (fun d σ2 k2 => bindT np tg d σ2 fun σ3 => wpX cond σ3 (fun rc σ4 => match rc with
      | .val (.bl t) => br t (wpX elt σ4 (fun re σ5 => take re σ5 fun y σ6 => k2 (some y) (wipeD σ6 vs)) x) (k2 none (wipeD σ4 vs))
      | _ => False) x) xs [] (wipeD σ1 vs) fun acc σ' => k (.val (.lst acc)) σ') x
  | .lrg tp a, σ, k, x => wpX a σ (fun ra σ1 => match ra with
    | .val (.int n) => (-(2 ^ 62) ≤ n ∧ n ≤ 16777216) ∧ k (.val (match tp with
      | true => .tup (intsUp 0 n.toNat)
      | false => .lst (intsUp 0 n.toNat))) σ1
    | _ => False) x
  | .sst a, σ, k, x => wpX a σ (fun ra σ1 => match rd σ1 ra with
    | some d => sstS d fun d' => k (.val d') σ1
    | none => False) x
  | .dc kx vx tg it cond vs, σ, k, x => wpI it σ (fun xs st hs σ1 => (hs.all fun i => !vs.contains i) = true ∧ forD st (fun d σ2 k2 => bindT np tg d σ2 fun σ3 => wpX cond σ3 (fun rc σ4 => match rc with
      | .val (.bl t) => br t (wpX kx σ4 (fun rk σ5 => match rk with
        | .val dk => (match keyOf dk with
          | some key => wpX vx σ5 (fun re σ6 => take re σ6 fun y σ7 => k2 (some (key, y)) (wipeD σ7 vs)) x
          | none => False)
        | _ => False) x) (k2 none (wipeD σ4 vs))
      | _ => False) x) xs ([], []) (wipeD σ1 vs) fun acc σ' => k (.val (.dct acc.1 acc.2)) σ') x
  | .dget a i b, σ, k, x => wpX a σ (fun ra σ1 => match isDct (rd σ1 ra) with
   | true => wpX i σ1 (fun ri σ2 => wpX b σ2 (fun rb σ3 => match ok2 ra i && ok2 ra b with
    | true => (match rd σ3 ra, ri, rb with
      | some (.dct ks xs), .val di, .val db => (match keyOf di with
        | some key => (match kix ks key with
          | some n => (match xs[n]? with
            | some e => e.im = true ∧ k (.val e) σ3
            | none => False)
          | none => db.im = true ∧ k (.val db) σ3)
        | none => False)
      | _, _, _ => False)
    | false => False) x) x
   | false => False) x
  | .frz a, σ, k, x => wpX a σ (fun ra σ1 => match ra with
    | .val (.lst xs) => imAll xs = true ∧ k (.val (.fl xs)) σ1
    | .val (.dct ks xs) => imAll xs = true ∧ k (.val (.fd ks xs)) σ1
    | _ => False) x
  | .lcd elt tg i cond vs, σ, k, x => (match σ[i]? with
    | some d => (match dctX d with
      | some (ks, xs) => (imAll xs = true ∧ vs.contains i = false) ∧ forC (fun _ => True) (fun d σ2 k2 => bindT np tg d σ2 fun σ3 => wpX cond σ3 (fun rc σ4 => match rc with
        | .val (.bl t) => br t (wpX elt σ4 (fun re σ5 => take re σ5 fun y σ6 => k2 (some y) (wipeD σ6 vs)) x) (k2 none (wipeD σ4 vs))
        | _ => False) x) (ks.map keyD) [] (wipeD (σ.set i (.fd ks xs)) vs) fun acc σ' => k (.val (.lst acc)) σ'
      | none => False)
    | none => False)
  | .nile ne a, σ, k, x => wpX a σ (fun ra σ1 => match ra with
    | .val (.lst xs) => k (.val (.bl (nileB ne xs))) σ1
    | _ => False) x
  | .itx _, _, _, _ => False
  | .rng _ _, _, _, _ => False
  | .rng3 _ _ _, _, _, _ => False
  | .enum _, _, _, _ => False
  | .zip _ _, _, _, _ => False
/-- several, as they stand (references stay references) -/
def wpXs : PX → List D → (List RV → List D → Prop) → OutK → Prop
  | .nil, σ, k, _ => k [] σ
  | .cons e es, σ, k, x => wpX e σ (fun r σ1 => match ok2 r es with
    | true => wpXs es σ1 (fun rs σ2 => k (r :: rs) σ2) x
    | false => False) x
  | _, _, _, _ => False
/-- several, taken -/
def wpTs : PX → List D → (List D → List D → Prop) → OutK → Prop
  | .nil, σ, k, _ => k [] σ
  | .cons e es, σ, k, x => wpX e σ (fun r σ1 => take r σ1 fun d σ2 => wpTs es σ2 (fun ds σ3 => k (d :: ds) σ3) x) x
  | _, _, _, _ => False
/-- what is walked -/
def wpI : PX → List D → (List D → (List D → Prop) → List Nat → List D → Prop) → OutK → Prop
  | .rng a b, σ, k, x => wpX a σ (fun ra σ1 => wpX b σ1 (fun rb σ2 => match ra, rb with
    | .val (.int i), .val (.int j) => (-(2 ^ 62) ≤ i ∧ i < 2 ^ 62 ∧ -(2 ^ 62) ≤ j ∧ j < 2 ^ 62) ∧ k (intsUp i (j - i).toNat) (fun _ => True) [] σ2
    | _, _ => False) x) x
  | .rng3 a b c, σ, k, x => wpX a σ (fun ra σ1 => wpX b σ1 (fun rb σ2 => wpX c σ2 (fun rc σ3 => match ra, rb, rc with
    | .val (.int i), .val (.int j), .val (.int l) => ∃ n, RgC i j l n ∧ k (stepUp i l n) (fun _ => True) [] σ3
    | _, _, _ => False) x) x) x
  | .enum a, σ, k, x => wpX a σ (fun ra σ1 => walkS ra σ1 fun xs st hs => (imAll xs = true ∧ True) ∧ k (enumD xs 0) st hs σ1) x
  | .zip a b, σ, k, x => wpX a σ (fun ra σ1 => wpX b σ1 (fun rb σ2 => match ok2 ra b with
    | true => walkS ra σ2 fun xs st hs => walkS rb σ2 fun ys st' hs' => (imAll xs = true ∧ imAll ys = true ∧ isSeq2 ra σ2 = isSeq2 rb σ2 ∧ isSeq2 ra σ2 ≠ 0) ∧ k (zipD xs ys) (fun σ => st σ ∧ st' σ) (hs ++ hs') σ2
    | false => False) x) x
  | .itx a, σ, k, x => wpX a σ (fun r σ1 => walkS r σ1 fun xs st hs => k xs st hs σ1) x
  | _, _, _, _ => False
end
end

/-! ### statements -/
inductive PSt where
  | nil | cons (s r : PSt)
  | exp (e : PX) | asg (t : Tg) (e : PX) | par (i j : Nat) (a b : PX) | par3 (i j l : Nat) (a b c : PX) | unl (is : List Nat) (e : PX)
  | asgS (a i e : PX) | aug (i : Nat) (op : Operator) (e : PX)
  | ret (e : PX) | retN
  | ite (c : PX) (a b : PSt) | whl (c : PX) (b : PSt) | for_ (tg : Tg) (it : PX) (b : PSt)
  | pas | brk | cnt | nev
structure En where
  nx : List D → Prop
  rt : OutK
  bk : List D → Prop
  ct : List D → Prop
  ex : OutK
abbrev En.seq (E : En) (f : List D → Prop) : En := { E with nx := f }
abbrev En.turn (E : En) (f : List D → Prop) : En := { E with nx := f, ct := f, bk := E.nx }
/-- a[i] = d: what stands at the place behind it -/
def setS (a i d : D) (k : D → Prop) : Prop := match a with
  | .lst xs => (match i with
    | .int z => (match ixN xs.length z with
      | some n => k (.lst (xs.set n d))
      | none => False)
    | _ => False)
  | .dct ks xs => (match keyOf i with
    | some key => (match kix ks key with
      | some n => ks.length < big ∧ k (.dct ks (xs.set n d))
      | none => ks.length < big ∧ k (.dct (ks ++ [key]) (xs ++ [d])))
    | none => False)
  | _ => False
def augS (op : Operator) (i j : Int) (k : KD) : Prop := match op with
  | .Add => k (.int (i + j))
  | .Sub => k (.int (i - j))
  | _ => False
/-- a taken value goes to a name -/
def storeK (np : Nat) (i : Nat) (d : D) (σ : List D) (k : List D → Prop) : Prop := match d with
  | .bot => False
  | _ => setK np i d σ k
def tgHas (j : Nat) : Tg → Bool
  | .one i => i == j
  | .many is => is.contains j
/-- the name may be stored -/
def asgd (j : Nat) : PSt → Bool
  | .cons s r => asgd j s || asgd j r
  | .asg t _ => tgHas j t
  | .par a b _ _ => a == j || b == j
  | .par3 a b c _ _ _ => a == j || (b == j || c == j)
  | .unl is _ => is.contains j
  | .aug i _ _ => i == j
  | .ite _ a b => asgd j a || asgd j b
  | .whl _ b => asgd j b
  | .for_ t _ b => tgHas j t || asgd j b
  | _ => false
section
variable (T : List FnS) (G : List D) (np : Nat)
def wpS : PSt → List D → En → Prop
  | .nil, σ, E => E.nx σ
  | .cons s r, σ, E => wpS s σ (E.seq fun σ' => wpS r σ' E)
  | .exp e, σ, E => wpX T G np e σ (fun _ σ' => E.nx σ') E.ex
  | .asg t e, σ, E => (match t with
    | .one i => wpX T G np e σ (fun r σ1 => take r σ1 fun d σ2 => storeK np i d σ2 E.nx) E.ex
    | .many is => wpX T G np e σ (fun r σ1 => match r with
      | .val (.tup es) => setsK np is es σ1 E.nx
      | _ => False) E.ex)
  | .par i j a b, σ, E => wpTs T G np (.cons a (.cons b .nil)) σ (fun ds σ1 => match ds with
    | [d, d'] => storeK np i d σ1 fun σ2 => storeK np j d' σ2 E.nx
    | _ => False) E.ex
  | .par3 i j l a b c, σ, E => wpTs T G np (.cons a (.cons b (.cons c .nil))) σ (fun ds σ1 => match ds with
    | [d, d', d''] => storeK np i d σ1 fun σ2 => storeK np j d' σ2 fun σ3 => storeK np l d'' σ3 E.nx
    | _ => False) E.ex
  | .unl is e, σ, E => wpX T G np e σ (fun r σ1 => match r with
    | .val (.lst es) => setsK np is es σ1 E.nx
    | _ => False) E.ex
  | .asgS a i e, σ, E => wpX T G np e σ (fun r σ1 => take r σ1 fun d σ2 => match quiet a && quiet i with
    | true => wpX T G np a σ2 (fun ra σ3 => wpX T G np i σ3 (fun ri σ4 => match ra, ri with
      | .ref p, .val di => (match getP σ4 p with
        | some da => setS da di d fun d' => E.nx (setP σ4 p d')
        | none => False)
      | _, _ => False) E.ex) E.ex
    | false => False) E.ex
  | .aug i op e, σ, E => (match σ[i]? with
    | some (.int a) => wpX T G np e σ (fun r σ1 => match r with
      | .val (.int b) => augS op a b fun d' => setK np i d' σ1 E.nx
      | _ => False) E.ex
    | _ => False)
  | .ret e, σ, E => wpX T G np e σ (fun r σ1 => take r σ1 fun d σ2 => E.rt d σ2) E.ex
  | .retN, σ, E => E.rt .non σ
  | .ite c a b, σ, E => wpX T G np c σ (fun r σ1 => match r with
    | .val (.bl t) => br t (wpS a σ1 E) (wpS b σ1 E)
    | _ => False) E.ex
  | .whl c b, σ, E => ∃ Inv : Nat → List D → Prop, (∃ m, Inv m σ) ∧ ∀ m σ', Inv m σ' → wpX T G np c σ' (fun r σ1 => match r with
    | .val (.bl t) => br t (wpS b σ1 (E.turn fun σ2 => ∃ m', m' < m ∧ Inv m' σ2)) (E.nx σ1)
    | _ => False) E.ex
  | .for_ tg it b, σ, E => wpI T G np it σ (fun xs st hs σ1 => (hs.all fun i => !tgHas i tg && !asgd i b) = true ∧ forL st (fun d σ2 k2 => bindT np tg d σ2 fun σ3 => wpS b σ3 (E.turn k2)) xs σ1 E.nx) E.ex
  | .pas, σ, E => E.nx σ
  | .brk, σ, E => E.bk σ
  | .cnt, σ, E => E.ct σ
  | .nev, _, _ => False
def outsD : List D → List D → List D
  | d :: ds, s :: σ => (match d.im with
    | true => .bot
    | false => s) :: outsD ds σ
  | _, _ => []
/-- the parameters that are stored: what comes in there owns nothing -/
def stPar (body : PSt) : List Nat := (List.range np).filter fun i => asgd i body
def imAt (ds : List D) (i : Nat) : Bool := match ds[i]? with
  | some d => d.im
  | none => false
def wpF (nl : Nat) (body : PSt) : FnS := fun ds k x => (ds.length = np ∧ (stPar np body).all (imAt ds) = true) ∧ wpS T G np body (ds ++ List.replicate nl .bot)
  { nx := fun σ => k .non (outsD ds σ), rt := fun d σ => k d (outsD ds σ), bk := fun _ => False, ct := fun _ => False, ex := fun d σ => x d (outsD ds σ) }
end
end MP

set_option Elab.async false
set_option linter.all false
set_option maxRecDepth 100000
set_option maxHeartbeats 1000000
/-! The tie between trees and the abstract heap. -/
namespace MP
open PySem PySem.Spec PyProof.Rows L2

/-- a def's entry -/
structure Ent where
  K : W.Frag
  Z0 : Addr → Prop
  H0 : Hp
  c0 : Cnt
structure Rel (N : Ent) (Z : Addr → Prop) (H : Hp) (vs : List V) (ds : List D) (c : Cnt) : Prop where
  own : Own N.K Z H vs ds c
  uni : ∀ a, c a ≤ 1
  fz : ∀ a, 0 < c a → ¬ Z a
  zl : ∀ a, Z a → H a ≠ none
  keep : ∀ a o, N.H0 a = some o → N.c0 a = 0 → H a = some o
  old : ∀ a, N.H0 a ≠ none → 0 < c a → 0 < N.c0 a
  live : ∀ a, N.H0 a ≠ none → H a ≠ none
  zs : ∀ a, Z a → N.Z0 a ∨ 0 < N.c0 a ∨ N.H0 a = none
  z0 : ∀ a, N.Z0 a → Z a

section
variable {N : Ent} {Z Z' : Addr → Prop} {H H' : Hp} {vs vs' us tvs fr : List V} {ds ds' es tds σ : List D} {c c' b : Cnt} {v : V} {d : D} {p : Addr} {o : HO}

theorem upd_live {a : Addr} (h : H a ≠ none) : upd H p o a ≠ none := by
  unfold upd; split
  · exact fun z => by cases z
  · exact h
theorem same_new (hp : H p = none) : Same H (upd H p o) := fun a u e => by rw [upd_ne (ne_of_none e hp)]; exact e
theorem Own.ext {K : W.Frag} (h : Own K Z H vs ds c) (hp : H p = none) : Own K Z (upd H p o) vs ds c :=
  h.keep (fun a ha => upd_ne fun e => h.isSome ha (by rw [e]; exact hp)) (fun a u e _ => by rw [upd_ne (ne_of_none e hp)]; exact e) fun a z => z
theorem Rel.ext (h : Rel N Z H vs ds c) (hp : H p = none) : Rel N Z (upd H p o) vs ds c where
  own := h.own.ext hp
  uni := h.uni
  fz := h.fz
  zl := fun a z => upd_live (h.zl a z)
  keep := fun a u e q => same_new hp _ _ (h.keep a u e q)
  old := h.old
  live := fun a e => upd_live (h.live a e)
  zs := h.zs
  z0 := h.z0
theorem Rel.re (h : Rel N Z H vs ds c) (own' : Own N.K Z H vs' ds' c') (hc : ∀ a, c' a ≤ c a) : Rel N Z H vs' ds' c' where
  own := own'
  uni := fun a => Nat.le_trans (hc a) (h.uni a)
  fz := fun a ha => h.fz a (Nat.lt_of_lt_of_le ha (hc a))
  zl := h.zl
  keep := h.keep
  old := fun a e ha => h.old a e (Nat.lt_of_lt_of_le ha (hc a))
  live := h.live
  zs := h.zs
  z0 := h.z0
theorem Rel.none0 (h : Rel N Z H vs ds c) (hp : H p = none) : N.H0 p = none ∧ c p = 0 ∧ ¬ Z p := by
  refine ⟨?_, ?_, fun z => h.zl p z hp⟩
  · cases q : N.H0 p with
    | none => rfl
    | some o => exact absurd hp (h.live p (by rw [q]; exact fun z => by cases z))
  · cases q : c p with
    | zero => rfl
    | succ n => exact absurd hp (h.own.isSome (by rw [q]; exact Nat.succ_pos n))
/-- a new object is owned -/
theorem Rel.own1 (h : Rel N Z H vs ds c) (hp : H p = none) (own' : Own N.K Z (upd H p o) vs' ds' c') (hc : ∀ a, c' a ≤ c a + one p a) : Rel N Z (upd H p o) vs' ds' c' := by
  obtain ⟨h1, h2, h3⟩ := h.none0 hp
  have x := h.ext (o := o) hp
  have hle : ∀ a, a ≠ p → c' a ≤ c a := fun a e => by have := hc a; rw [one_ne e] at this; omega
  refine ⟨own', fun a => ?_, fun a ha => ?_, x.zl, x.keep, fun a e ha => ?_, x.live, x.zs, x.z0⟩
  · by_cases e : a = p
    · subst e; have := hc a; rw [one_self, h2] at this; omega
    · exact Nat.le_trans (hle a e) (h.uni a)
  · by_cases e : a = p
    · subst e; exact h3
    · exact h.fz a (Nat.lt_of_lt_of_le ha (hle a e))
  · by_cases q : a = p
    · subst q; exact absurd h1 e
    · exact h.old a e (Nat.lt_of_lt_of_le ha (hle a q))
/-- an owned object is rewritten -/
theorem Rel.wr (h : Rel N Z H vs ds c) (hq : 0 < c p) (own' : Own N.K Z (upd H p o) vs' ds' c') (hc : ∀ a, c' a ≤ c a) : Rel N Z (upd H p o) vs' ds' c' where
  own := own'
  uni := fun a => Nat.le_trans (hc a) (h.uni a)
  fz := fun a ha => h.fz a (Nat.lt_of_lt_of_le ha (hc a))
  zl := fun a z => upd_live (h.zl a z)
  keep := fun a u e q => by
    rw [upd_ne (fun z => ?_)]
    · exact h.keep a u e q
    · subst z
      have := h.old a (by rw [e]; exact fun z => by cases z) hq
      omega
  old := fun a e ha => h.old a e (Nat.lt_of_lt_of_le ha (hc a))
  live := fun a e => upd_live (h.live a e)
  zs := h.zs
  z0 := h.z0

/-! ### the stack of values -/
theorem Own.rot {K : W.Frag} {A B C E : List V} {A' B' C' E' : List D} (h : Own K Z H (A ++ (B ++ (C ++ E))) (A' ++ (B' ++ (C' ++ E'))) c) (l1 : A.length = A'.length) (l2 : B.length = B'.length) (l3 : C.length = C'.length) :
    Own K Z H (A ++ (C ++ (B ++ E))) (A' ++ (C' ++ (B' ++ E'))) c := by
  obtain ⟨c1, c2, h1, h2, e1⟩ := h.split2 l1
  obtain ⟨c3, c4, h3, h4, e2⟩ := h2.split2 l2
  obtain ⟨c5, c6, h5, h6, e3⟩ := h4.split2 l3
  exact (h1.app (h5.app (h3.app h6))).cast fun a => by have := e1 a; have := e2 a; have := e3 a; (try dsimp only); omega
theorem Own.frl {K : W.Frag} (h : Own K Z H (fr ++ tvs) (σ ++ tds) c) (l : tvs.length = tds.length) : fr.length = σ.length := by
  have := h.len
  simp only [List.length_append] at this
  omega
theorem Rel.rot {A B C E : List V} {A' B' C' E' : List D} (h : Rel N Z H (A ++ (B ++ (C ++ E))) (A' ++ (B' ++ (C' ++ E'))) c) (l1 : A.length = A'.length) (l2 : B.length = B'.length) (l3 : C.length = C'.length) :
    Rel N Z H (A ++ (C ++ (B ++ E))) (A' ++ (C' ++ (B' ++ E'))) c := h.re (h.own.rot l1 l2 l3) fun _ => Nat.le_refl _
/-- some of the stack thrown away -/
theorem Rel.drop (h : Rel N Z H (fr ++ (us ++ tvs)) (σ ++ (es ++ tds)) c) (l1 : fr.length = σ.length) (l2 : us.length = es.length) : ∃ c', (∀ a, c' a ≤ c a) ∧ Rel N Z H (fr ++ tvs) (σ ++ tds) c' := by
  obtain ⟨c1, c2, h1, h2, e1⟩ := h.own.split2 l1
  obtain ⟨c3, c4, h3, h4, e2⟩ := h2.split2 l2
  exact ⟨_, fun a => by have := e1 a; have := e2 a; (try dsimp only); omega, h.re (h1.app h4) fun a => by have := e1 a; have := e2 a; (try dsimp only); omega⟩
theorem Rel.drop1 (h : Rel N Z H (fr ++ (v :: tvs)) (σ ++ (d :: tds)) c) (l1 : fr.length = σ.length) : ∃ c', (∀ a, c' a ≤ c a) ∧ Rel N Z H (fr ++ tvs) (σ ++ tds) c' :=
  Rel.drop (us := [v]) (es := [d]) h l1 rfl
/-- a value without owned objects is put on the stack -/
theorem Rel.push0 (h : Rel N Z H (fr ++ tvs) (σ ++ tds) c) (l1 : fr.length = σ.length) (hv : Own N.K Z H [v] [d] fun _ => 0) : Rel N Z H (fr ++ (v :: tvs)) (σ ++ (d :: tds)) c := by
  obtain ⟨c1, c2, h1, h2, e1⟩ := h.own.split2 l1
  refine h.re ((h1.app (hv.cons h2)).cast (c' := c) fun a => ?_) fun _ => Nat.le_refl _
  have := e1 a; (try dsimp only); omega
/-- a new tuple -/
theorem Own.pr1 {K : W.Frag} (hp : H p = none) (hu : Own K Z H us es fun _ => 0) : Own K Z (upd H p (.tup us)) [.ref p] [.pr es] fun _ => 0 :=
  .pr (SqT.of upd_same) (hu.ext hp) .nil
theorem Own.tup1 {K : W.Frag} {ob : Obj} (hd : ob.dict = none) (hp : H p = none) (hu : Own K Z H us es fun _ => 0) : Own K Z (upd H p (.frz ob (.tup us))) [.ref p] [.tup es] fun _ => 0 :=
  .tup (.inl ⟨ob, hd, upd_same⟩) (hu.ext hp) .nil
theorem Rel.newPr (h : Rel N Z H (fr ++ tvs) (σ ++ tds) c) (l1 : fr.length = σ.length) (hp : H p = none) (hu : Own N.K Z H us es fun _ => 0) : Rel N Z (upd H p (.tup us)) (fr ++ (.ref p :: tvs)) (σ ++ (.pr es :: tds)) c :=
  (h.ext hp).push0 l1 (Own.pr1 hp hu)
theorem Own.lst1 {K : W.Frag} (hp : H p = none) (hu : Own K Z H us es b) : Own K Z (upd H p (.lst us)) [.ref p] [.lst es] fun a => one p a + b a :=
  (Own.lst upd_same (hu.ext hp) .nil).cast fun a => by simp
theorem Rel.newTup {ob : Obj} (hd : ob.dict = none) (h : Rel N Z H (fr ++ tvs) (σ ++ tds) c) (l1 : fr.length = σ.length) (hp : H p = none) (hu : Own N.K Z H us es fun _ => 0) : Rel N Z (upd H p (.frz ob (.tup us))) (fr ++ (.ref p :: tvs)) (σ ++ (.tup es :: tds)) c :=
  (h.ext hp).push0 l1 (Own.tup1 hd hp hu)
theorem Rel.newLst (h : Rel N Z H (fr ++ (us ++ tvs)) (σ ++ (es ++ tds)) c) (l1 : fr.length = σ.length) (l2 : us.length = es.length) (hp : H p = none) :
    Rel N Z (upd H p (.lst us)) (fr ++ (.ref p :: tvs)) (σ ++ (.lst es :: tds)) (fun a => c a + one p a) := by
  obtain ⟨c1, c2, h1, h2, e1⟩ := h.own.split2 l1
  obtain ⟨c3, c4, h3, h4, e2⟩ := h2.split2 l2
  refine h.own1 hp (((h1.ext hp).app ((Own.lst1 hp h3).cons (h4.ext hp))).cast fun a => ?_) fun a => Nat.le_refl _
  have := e1 a; have := e2 a; (try dsimp only); omega
theorem Rel.newLst0 (h : Rel N Z H (fr ++ tvs) (σ ++ tds) c) (l1 : fr.length = σ.length) (hp : H p = none) (hu : Own N.K Z H us es fun _ => 0) :
    Rel N Z (upd H p (.lst us)) (fr ++ (.ref p :: tvs)) (σ ++ (.lst es :: tds)) (fun a => c a + one p a) := by
  obtain ⟨c1, c2, h1, h2, e1⟩ := h.own.split2 l1
  refine h.own1 hp (((h1.ext hp).app ((Own.lst1 hp hu).cons (h2.ext hp))).cast fun a => ?_) fun a => Nat.le_refl _
  have := e1 a; (try dsimp only); omega

theorem Own.dct1 {K : W.Frag} {kvs : List (Key × V)} (hp : H p = none) (hn : (kvs.map (·.1)).Nodup) (hu : Own K Z H (kvs.map (·.2)) es b) : Own K Z (upd H p (.dK kvs)) [.ref p] [.dct (kvs.map (·.1)) es] fun a => one p a + b a :=
  (Own.dct upd_same rfl hn (hu.ext hp) .nil).cast fun a => by simp
theorem Rel.newDct0 {kvs : List (Key × V)} (h : Rel N Z H (fr ++ tvs) (σ ++ tds) c) (l1 : fr.length = σ.length) (hp : H p = none) (hn : (kvs.map (·.1)).Nodup) (hu : Own N.K Z H (kvs.map (·.2)) es fun _ => 0) :
    Rel N Z (upd H p (.dK kvs)) (fr ++ (.ref p :: tvs)) (σ ++ (.dct (kvs.map (·.1)) es :: tds)) (fun a => c a + one p a) := by
  obtain ⟨c1, c2, h1, h2, e1⟩ := h.own.split2 l1
  refine h.own1 hp (((h1.ext hp).app ((Own.dct1 hp hn hu).cons (h2.ext hp))).cast fun a => ?_) fun a => Nat.le_refl _
  have := e1 a; (try dsimp only); omega

/-! ### items that own nothing -/
theorem Own.im1 {K : W.Frag} (h : Own K Z H [v] [d] b) (hd : d.im = true) : Own K Z H [v] [d] fun _ => 0 := by
  cases h with
  | bot _ => cases hd
  | lst _ _ _ => cases hd
  | dct _ _ _ _ _ => cases hd
  | non h => exact .non .nil
  | bl h => exact .bl .nil
  | int h => exact .int .nil
  | str h => exact .str .nil
  | pr q x h => exact .pr q x .nil
  | fd q hk hn x h => exact .fd q hk hn x .nil
  | tup q x h => exact .tup q x .nil
  | fl q x h => exact .fl q x .nil
theorem Own.imAll {K : W.Frag} : ∀ {es : List D} {us : List V} {b : Cnt}, Own K Z H us es b → MP.imAll es = true → Own K Z H us es fun _ => 0
  | [], us, b, h, _ => by cases us with
    | nil => exact .nil
    | cons _ _ => have := h.len; simp at this
  | d :: es, us, b, h, hd => by
    cases us with
    | nil => have := h.len; simp at this
    | cons v us =>
      obtain ⟨c1, c2, h1, h2, e⟩ := h.uncons
      have hd' : d.im = true ∧ MP.imAll es = true := by simpa [MP.imAll] using hd
      exact ((h1.im1 hd'.1).cons (Own.imAll h2 hd'.2)).cast fun a => rfl
theorem Own.item {K : W.Frag} {i : Nat} (h : Own K Z H us es b) (e : es[i]? = some d) : ∃ v b', us[i]? = some v ∧ Own K Z H [v] [d] b' ∧ ∀ a, b' a ≤ b a := by
  obtain ⟨v, b', r, e1, h1, q, _⟩ := h.at e
  exact ⟨v, b', e1, h1, fun a => by have := q a; omega⟩
theorem Own.take {K : W.Frag} (n : Nat) (h : Own K Z H us es b) : ∃ b', Own K Z H (us.take n) (es.take n) b' ∧ ∀ a, b' a ≤ b a := by
  obtain ⟨c1, c2, h1, h2, e⟩ := Own.split2 (vs := us.take n) (vs' := us.drop n) (ds := es.take n) (ds' := es.drop n) (by rw [List.take_append_drop, List.take_append_drop]; exact h) (by simp [h.len])
  exact ⟨c1, h1, fun a => by have := e a; omega⟩
theorem Own.drop' {K : W.Frag} (n : Nat) (h : Own K Z H us es b) : ∃ b', Own K Z H (us.drop n) (es.drop n) b' ∧ ∀ a, b' a ≤ b a := by
  obtain ⟨c1, c2, h1, h2, e⟩ := Own.split2 (vs := us.take n) (vs' := us.drop n) (ds := es.take n) (ds' := es.drop n) (by rw [List.take_append_drop, List.take_append_drop]; exact h) (by simp [h.len])
  exact ⟨c2, h2, fun a => by have := e a; omega⟩
theorem Own.zero_of {K : W.Frag} (h : Own K Z H us es b) (hb : ∀ a, b a ≤ 0) : Own K Z H us es fun _ => 0 := h.cast fun a => by have := hb a; omega
theorem Own.cut {K : W.Frag} {lo hi : Option Int} (h : Own K Z H us es b) : ∃ b', Own K Z H (cutV us lo hi) (cutD es lo hi) b' ∧ ∀ a, b' a ≤ b a := by
  have hl := h.len
  obtain ⟨b1, h1, q1⟩ := h.drop' (HT.sIx us.length 0 lo)
  obtain ⟨b2, h2, q2⟩ := h1.take (HT.sIx us.length us.length hi - HT.sIx us.length 0 lo)
  refine ⟨b2, ?_, fun a => Nat.le_trans (q2 a) (q1 a)⟩
  unfold cutV cutD
  rw [← hl]; exact h2
theorem Own.reverse {K : W.Frag} : ∀ {es : List D} {us : List V}, Own K Z H us es (fun _ => 0) → Own K Z H us.reverse es.reverse fun _ => 0
  | [], us, h => by cases us with
    | nil => exact .nil
    | cons _ _ => have := h.len; simp at this
  | d :: es, us, h => by
    cases us with
    | nil => have := h.len; simp at this
    | cons v us =>
      obtain ⟨c1, c2, h1, h2, e⟩ := h.uncons
      rw [List.reverse_cons, List.reverse_cons]
      exact ((Own.reverse (h2.zero_of fun a => by have := e a; omega)).app (h1.zero_of fun a => by have := e a; omega)).cast fun a => rfl

/-! ### what an operand is -/
def RV.own : RV → D
  | .val d => d
  | .ref _ => .bot
def RVok (σ : List D) (H : Hp) (fr : List V) (v : V) : RV → Prop
  | .val _ => True
  | .ref p => locV H fr p = some v ∧ wayM σ p = true
theorem locV_same (hs : Same H H') : ∀ {p : List Nat} {vs : List V} {v : V}, locV H vs p = some v → locV H' vs p = some v
  | [], _, _, e => e
  | [i], _, _, e => e
  | i :: j :: p, vs, v, e => by
    unfold locV at e ⊢
    cases e1 : vs[i]? with
    | none => rw [e1] at e; exact e
    | some x =>
      rw [e1] at e
      cases x <;> first
        | exact e
        | (rename_i a
           simp only at e ⊢
           cases e2 : H a with
           | none => rw [e2] at e; cases e
           | some o =>
             rw [e2] at e
             rw [hs _ _ e2]
             exact locV_same hs e)
theorem RVok.later {σ' : List D} {r : RV} {q : PX} (h : RVok σ H fr v r) (ok : ok2 r q = true) (hq : quiet q = true → σ' = σ ∧ Same H H') : RVok σ' H' fr v r := by
  cases r with
  | val _ => trivial
  | ref p =>
    obtain ⟨h1, h2⟩ := h
    match p, h1, h2 with
    | [], h1, h2 => exact ⟨h1, h2⟩
    | [i], h1, h2 => exact ⟨h1, rfl⟩
    | i :: j :: p, h1, h2 =>
      have qq : quiet q = true := by simpa [ok2, deep] using ok
      obtain ⟨e, s⟩ := hq qq
      subst e
      exact ⟨locV_same s h1, h2⟩
theorem getP_app : ∀ {p : List Nat} {σ tds : List D} {d : D}, getP σ p = some d → getP (σ ++ tds) p = some d
  | [], _, _, _, e => by simp [getP] at e
  | [i], σ, tds, d, e => by
    have e : σ[i]? = some d := e
    show (σ ++ tds)[i]? = some d
    rw [List.getElem?_append_left (List.getElem?_eq_some_iff.mp e).1]; exact e
  | i :: j :: p, σ, tds, d, e => by
    unfold getP at e ⊢
    cases e1 : σ[i]? with
    | none => rw [e1] at e; cases e
    | some x =>
      rw [List.getElem?_append_left (List.getElem?_eq_some_iff.mp e1).1, e1]
      rw [e1] at e; exact e
theorem wayM_len : ∀ {p : List Nat} {σ : List D}, wayM σ p = true → True := fun _ => trivial
/-- the operand's tree, looked at -/
theorem Rel.peek {r : RV} {x : D} (h : Rel N Z H (fr ++ (v :: tvs)) (σ ++ (x :: tds)) c) (l1 : fr.length = σ.length) (hx : ∀ e, r = .val e → x = e) (ok : RVok σ H fr v r) (hr : rd σ r = some d) : ∃ b, Own N.K Z H [v] [d] b ∧ ∀ a, b a ≤ c a := by
  obtain ⟨c1, c2, h1, h2, e1⟩ := h.own.split2 l1
  cases r with
  | val e =>
    have : x = e := hx e rfl
    subst this
    have hr : x = d := Option.some.inj hr
    subst hr
    obtain ⟨c3, c4, h3, h4, e2⟩ := h2.uncons
    exact ⟨c3, h3, fun a => by have := e1 a; have := e2 a; omega⟩
  | ref p =>
    obtain ⟨k1, k2⟩ := ok
    obtain ⟨v', b, rr, e2, h3, e3, _⟩ := Own.focus h1 (nb_some (show nb (getP σ p) = some d from hr)).1 k2
    rw [k1] at e2
    have e2 := Option.some.inj e2
    subst e2
    exact ⟨b, h3, fun a => by have := e1 a; have := e3 a; omega⟩

/-! ### the results of a step that changes nothing -/
structure Fin (K : W.Frag) (Z : Addr → Prop) (H : Hp) (k : KD) (Q : VK) : Prop where
  im : ∀ d v, k d → Own K Z H [v] [d] (fun _ => 0) → Q v H
  tup : ∀ us es p (ob : Obj), ob.dict = none → k (.tup es) → Own K Z H us es (fun _ => 0) → H p = none → Q (.ref p) (upd H p (.frz ob (.tup us)))
  lst : ∀ us es p, k (.lst es) → Own K Z H us es (fun _ => 0) → H p = none → Q (.ref p) (upd H p (.lst us))
  dct : ∀ (kvs : List (Key × V)) es p, k (.dct (kvs.map (·.1)) es) → (kvs.map (·.1)).Nodup → Own K Z H (kvs.map (·.2)) es (fun _ => 0) → H p = none → Q (.ref p) (upd H p (.dK kvs))
theorem Fin.int {K : W.Frag} {k : KD} {Q : VK} (F : Fin K Z H k Q) {i : Int} (h : k (.int i)) : Q (.int i) H := F.im _ _ h (.int .nil)
theorem Fin.str {K : W.Frag} {k : KD} {Q : VK} (F : Fin K Z H k Q) {i : Str} (h : k (.str i)) : Q (.str i) H := F.im _ _ h (.str .nil)
theorem Fin.bl {K : W.Frag} {k : KD} {Q : VK} (F : Fin K Z H k Q) {i : Bool} (h : k (.bl i)) : Q (.bl i) H := F.im _ _ h (.bl .nil)
theorem Fin.non {K : W.Frag} {k : KD} {Q : VK} (F : Fin K Z H k Q) (h : k .non) : Q .non H := F.im _ _ h (.non .nil)
end
end MP

set_option Elab.async false
set_option linter.all false
set_option maxRecDepth 100000
set_option maxHeartbeats 1000000
/-! New tuples whose object is kept: it has no dict of its own (what dict(t) asks). -/
namespace MP
open PySem PySem.Spec PyProof.Rows L2
/-- a new tuple's object, for whatever it is at -/
def NewT (Q : VK) (H : Hp) (us : List V) : Prop := ∀ p (ob : Obj), ob.dict = none → H p = none → Q (.ref p) (upd H p (.frz ob (.tup us)))
theorem frz_ok {P : Program} {w : World} {H : Hp} {h : Heap} {a : Addr} {ob : Obj} {us : List V} {its : List Value} {n : Nat} (e : h.get? a = some ob) (hc : ob.cls = .type "tuple") (hd : ob.data = .seq its.toArray n) (hz : us.length ≤ sizeLine) (r : Vals us its) : ObjOk P w H h a (.frz ob (.tup us)) :=
  ⟨e, hz, its, r, ob, e, hc, n, hd⟩
section
variable {X : Cx} {pins : List (Addr × Obj)} {σ : L2.St} {H : Hp} {s : Shared} {h' : Heap} {t' : Nat}
/-- a tuple is laid at the heap's end -/
theorem newT_of {us : List V} {its : List Value} {Q : VK} (I : Inv X pins σ H s) (k : ∀ b u, s.heap.get? b = some u → h'.get? b = some u) (hz : us.length ≤ sizeLine) (r : Vals us its) (q : NewT Q H us) :
    EP X pins σ Q (.ref h'.objs.size) { s with heap := h'.push { cls := .type "tuple", data := .seq its.toArray }, toks := t' } := by
  have I1 : Inv X pins σ H { s with heap := h', toks := t' } := I.kept (t' := t') k
  refine ⟨.ref h'.objs.size, _, I1.laid (t' := t') (o := .frz { cls := .type "tuple", data := .seq its.toArray } (.tup us)) (fun b o e => Heap.get?_push_of_some _ e) (Nat.le_refl _) ?_, rfl, q _ _ rfl (I1.hok.fresh (Nat.le_refl _))⟩
  exact frz_ok (n := _) (Heap.get?_push_size _ rfl) rfl rfl hz r
end
section
variable {X : Cx}
/-- a tuple display -/
def tTupP (t : TA) : TE := fun σ H Q => t σ H fun xs H1 => xs.length ≤ sizeLine ∧ NewT Q H1 xs
theorem pe_tupP {x1} {es : List Expr} {t : TA} {pos : Pos} (h : PA X es t) : PE X (.Tuple es x1 pos) (tTupP t) :=
  ⟨fun pins s σ H Q I hq => wpAny_Tuple_spliced (thn (h.run pos pins s σ H _ I hq) fun us s1 ⟨xs, H1, I1, r, z, q⟩ =>
    ⟨by rw [← r.length]; exact z, newT_of (t' := s1.toks) I1 (fun _ _ e => e) z r q⟩)⟩
/-- t + u -/
def rCatP (K : W.Frag) : R2 := fun x y H Q => ∃ a b xs ys, x = .ref a ∧ y = .ref b ∧ SqT K H a xs ∧ SqT K H b ys ∧ xs.length + ys.length ≤ sizeLine ∧
  (xs = [] → Q (.ref b) H) ∧ (xs ≠ [] → ys = [] → Q (.ref a) H) ∧ (xs ≠ [] → ys ≠ [] → NewT Q H (xs ++ ys))
theorem op_catP : OpR X (binaryOp .Add) (rCatP X.K) := by
  intro pins s σ H x y v u Q I rx ry h
  obtain ⟨a, b, xs, ys, rfl, rfl, ha, hb, hz, q0, q1, q2⟩ := h
  by_cases hx : xs = []
  · exact op_catA pins s σ H _ _ v u Q I rx ry ⟨a, b, xs, ys, rfl, rfl, ha, hb, hz, q0, fun z => absurd hx z, fun z => absurd hx z⟩
  by_cases hy : ys = []
  · exact op_catA pins s σ H _ _ v u Q I rx ry ⟨a, b, xs, ys, rfl, rfl, ha, hb, hz, q0, q1, fun _ z => absurd hy z⟩
  cases rx
  cases ry
  obtain ⟨its, r1, p1, _⟩ := I.tuple ha
  obtain ⟨its2, r2, p2, _⟩ := I.tuple hb
  exact HT.cat_tup p1 p2 (fun z => hx (r1.nil_iff.mp z)) (fun z => absurd (r2.nil_iff.mp z) hy) (fun _ => newT_of (t' := s.toks) I (fun _ _ e => e) (by rw [List.length_append]; exact hz) (r1.append r2) (q2 hx hy)) (by rw [← r1.length, ← r2.length]; exact hz)
/-- t[lo:hi] -/
def rSlP (K : W.Frag) : V → Option Int → Option Int → Hp → VK → Prop := fun x lo hi H Q => ∃ a xs, x = .ref a ∧ SqT K H a xs ∧
  (HT.sIx xs.length 0 lo = 0 ∧ HT.sIx xs.length xs.length hi = xs.length → Q (.ref a) H) ∧ (¬ (HT.sIx xs.length 0 lo = 0 ∧ HT.sIx xs.length xs.length hi = xs.length) → NewT Q H (cutV xs lo hi))
theorem sl_tupP : SlR X (rSlP X.K) := by
  intro pins s σ H x v vl vu lo hi sl Q I rx hs pl pu h
  obtain ⟨a, xs, rfl, hx, q1, q2⟩ := h
  by_cases hw : HT.sIx xs.length 0 lo = 0 ∧ HT.sIx xs.length xs.length hi = xs.length
  · exact sl_tupA pins s σ H _ v vl vu lo hi sl Q I rx hs pl pu ⟨a, xs, rfl, hx, q1, fun z => absurd hw z⟩
  cases rx
  obtain ⟨its, r, ht, hz⟩ := I.tuple hx
  have hlen : its.toArray.size = xs.length := by rw [List.size_toArray]; exact r.length.symm
  refine ⟨"tuple", _, PyProof.Rows.slot_tuple_getitem.lookup, ht.typeIs, ?_⟩
  refine HT.getItem_tuple_cut ht hs pl pu (by rw [hlen]; exact hw) ?_ (by rw [hlen]; exact hz)
  rw [hlen]
  exact newT_of (t' := s.toks) I (fun _ _ e => e) (Nat.le_trans (cutV_length xs lo hi) hz) ((r.drop (HT.sIx xs.length 0 lo)).take (HT.sIx xs.length xs.length hi - HT.sIx xs.length 0 lo)) (q2 hw)
/-- tuple(x) -/
theorem call_tupleP : CallR X (.type "tuple") (fun xs H Q => ∃ p ys, xs = [.ref p] ∧ ((SqL X.K H p ys ∧ NewT Q H ys) ∨ (SqT X.K H p ys ∧ Q (.ref p) H))) := by
  intro pins s σ H xs us Q I r h
  obtain ⟨p, ys, rfl, ⟨hq, q⟩ | ⟨hq, q⟩⟩ := h
  · obtain ⟨u, rfl, rx⟩ := vals1 r
    cases rx
    obtain ⟨its, r', pl, hz⟩ := I.list hq
    have hlen := r'.length
    exact call_tuple_list pl.isList (fun h' kp => newT_of (t' := s.toks) I kp hz r' q) (by simp only [List.size_toArray] <;> omega)
  · exact call_tuple_of pins s σ H _ us Q I r ⟨p, ys, rfl, .inr ⟨hq, q⟩⟩
/-- tuple(range(..)) -/
def tTupRgP (te : L2.St → Hp → (Int → Int → Hp → Prop) → Prop) : TE := fun σ H Q => te σ H fun a b H1 => RgOk a b ∧ NewT Q H1 (rgV a b)
theorem pe_tupRgP {e : Expr} {te : L2.St → Hp → (Int → Int → Hp → Prop) → Prop} {p pos : Pos} (hc : X.calm = true) (hg : Gl X "tuple") (hm : X.mg "tuple" = none) (he : PRg X e te) (na : starEach [e] X.env = (false, eval e X.env) :: starEach [] X.env := by rfl) : PE X (.Call (.Name "tuple" p) [e] [] pos) (tTupRgP te) := by
  refine ⟨fun pins s σ H Q I h => ?_⟩
  refine Call_ (ld_blt I hg hm boot_tuple (PyProof.Rows.callWith_type1 (args_cons (thn (he pins s σ H _ I h) fun x s1 ⟨r, a, b, t, u, v, H1, ex, hr, I1, ok, q⟩ => args_nil ?_) na) na))
  subst ex
  obtain ⟨b1, b2, b3, b4, b5⟩ := ok
  refine call_tuple_range (n := (b - a).toNat) (I1.ok.hd hc) hr (small_one b1 b2 b3 b4) (rangeSize_nat a b) b5 fun h' tk acc hk hi => ?_
  have := newT_of (X := X) (t' := tk) (its := acc.toList) I1 hk (by rw [rgV_length, sizeLine_eq]; omega) (vals_rg hi) q
  rw [Array.toArray_toList] at this
  exact this
end
end MP

set_option Elab.async false
set_option linter.all false
set_option maxRecDepth 100000
set_option maxHeartbeats 1000000
/-! t[::-1] of a tuple, a tuple times a number: new tuples whose object is kept. -/
namespace MP
open PySem PySem.Spec PyProof.Rows L2
theorem adjust_back (n : Nat) : Builtin.Slice.sliceAdjust none none (-1) (n : Int) = ((n : Int) - 1, -1) := rfl
theorem places_back (n : Nat) : Builtin.Slice.slicePlaces ((n : Int) - 1) (-1) (-1) = n := by
  unfold Builtin.Slice.slicePlaces
  rw [if_neg (by decide)]
  by_cases h : n = 0
  · subst h; decide
  · rw [if_pos (by omega)]
    have : ((n : Int) - 1 - -1 - 1) / (- -1) = (n : Int) - 1 := by
      rw [show (- -1 : Int) = 1 by decide, Int.ediv_one]; omega
    rw [this]; omega
theorem pick_back (xs : Array Value) : ((List.range xs.size).filterMap fun (m : Nat) => xs[(((xs.size : Int) - 1) + (m : Int) * -1).toNat]?).toArray = xs.toList.reverse.toArray := by
  have e : (List.range xs.size).filterMap (fun (m : Nat) => xs[(((xs.size : Int) - 1) + (m : Int) * -1).toNat]?) = ((List.range xs.size).map fun k => xs.size - 1 - k).filterMap (xs[·]?) := by
    rw [List.filterMap_map]
    have key : ∀ l : List Nat, l.filterMap (fun (m : Nat) => xs[(((xs.size : Int) - 1) + (m : Int) * -1).toNat]?) = l.filterMap ((xs[·]?) ∘ fun k => xs.size - 1 - k) := fun l => by
      induction l with
      | nil => rfl
      | cons m l ih =>
        have : (((xs.size : Int) - 1) + (m : Int) * -1).toNat = xs.size - 1 - m := by omega
        rw [List.filterMap_cons, List.filterMap_cons, ih, this]; rfl
    exact key _
  rw [e, W.krv_range, List.filterMap_reverse, W.krv_all]
section
variable {prog : Program} {w : World} {A : Around} {E : Value → Shared → Prop} {s : Shared}
theorem applied_back {sl : Addr} {vs : Value} {n : Nat} {Q : Int × Int × Nat → Shared → Prop} (hs : s.heap.IsSliceOf sl .none .none vs) (ps : IsPart vs (some (-1))) (h : Q ((n : Int) - 1, -1, n) s) :
    wpAny (model prog w) A (Builtin.Slice.sliceApplied (.ref sl) (pure (n : Int))) Q E s := by
  obtain ⟨o1, ho, hc, hd⟩ := id hs
  unfold Builtin.Slice.sliceApplied Builtin.Slice.sliceFields
  refine wpAny_bind (wpAny_bind (wpAny_field ho hd (x := .none) rfl (wpAny_bind (wpAny_field ho hd (x := .none) rfl (wpAny_bind (wpAny_field ho hd (x := vs) rfl (wpAny_pure ?_)))))))
  refine wpAny_bind (HT.slicePart_ ps ?_)
  show wpAny _ _ (if ((-1 : Int) == 0) = true then _ else _) _ _ s
  rw [if_neg (by decide)]
  refine wpAny_bind (slicePart_none (wpAny_bind (slicePart_none (wpAny_bind (wpAny_pure ?_)))))
  show wpAny _ _ (match Builtin.Slice.sliceAdjust none none (-1) (n : Int) with | (i, j) => pure (i, (-1 : Int), Builtin.Slice.slicePlaces i j (-1))) _ _ s
  rw [adjust_back]
  show wpAny _ _ (pure ((n : Int) - 1, (-1 : Int), Builtin.Slice.slicePlaces ((n : Int) - 1) (-1) (-1))) _ _ s
  rw [places_back]
  exact wpAny_pure h
theorem item_back {t sl : Addr} {items : Array Value} {vs : Value} {Q : Value → Shared → Prop} (ht : IsTup s.heap t items) (hs : s.heap.IsSliceOf sl .none .none vs) (ps : IsPart vs (some (-1)))
    (h : Q (.ref s.heap.objs.size) { s with heap := s.heap.push { cls := .type "tuple", data := .seq items.toList.reverse.toArray } }) (hsz : items.size ≤ sizeLine) :
    wpAny (model prog w) A (getItem (.ref t) (.ref sl)) Q E s := by
  have hr : sizeOk (.seq items.toList.reverse.toArray) := by
    show items.toList.reverse.toArray.size ≤ sizeLine
    rw [List.size_toArray, List.length_reverse, Array.length_toList]; exact hsz
  obtain ⟨o1, ho, hc, hd⟩ := id hs
  have hk : s.TypeIs (.ref sl) "slice" := ⟨o1, ho, hc⟩
  unfold getItem
  try with_reducible refine wpAny_holding ?_
  first | refine wpAny_bind (wpAny_pure ?_) | skip
  refine wpAny_bind (wpAny_sequenceKey ht.typeIs (by decide) ?_)
  refine wpAny_bind (wpAny_callSpecial?_slot (name := Str.ofString "__getitem__") ht.typeIs PyProof.Rows.slot_tuple_getitem (wpAny_call_entry PyProof.Rows.slot_tuple_getitem ht.typeIs entry_tuple_getitem ?_ (args_tuple_getitem _ _)))
  show wpAny _ _ (Builtin.Tuple.tupleItemsOf (.ref t) >>= _) _ _ s
  refine wpAny_bind (tupleItemsOf_ ht ?_)
  refine wpAny_bind (wpAny_typeOf hk ?_)
  rw [if_pos (by decide)]
  refine wpAny_bind (applied_back hs ps ?_)
  show wpAny _ _ (if (((items.size : Int) - 1) == 0 && (-1 : Int) == 1 && items.size == items.size) = true then _ else _) _ _ s
  rw [show (((-1 : Int) == 1) = false) from rfl, Bool.and_false, Bool.false_and, if_neg Bool.false_ne_true]
  show wpAny _ _ (Builtin.Tuple.tupleExact (((List.range items.size).filterMap fun (m : Nat) => items[(((items.size : Int) - 1) + (m : Int) * -1).toNat]?).toArray) >>= _) _ _ s
  rw [pick_back]
  first
    | exact wpAny_bind (m := Builtin.Tuple.tupleExact _) (wpAny_newObj_type (wpAny_pure ⟨_, rfl, wpAny_pure h⟩) hr)
    | exact wpAny_bind (m := Builtin.Tuple.tupleExact _) (wpAny_newObj_type (wpAny_bind (wpAny_pure (wpAny_pure ⟨_, rfl, wpAny_pure h⟩))) hr)
    | exact wpAny_bind (wpAny_bind (m := Builtin.Tuple.tupleExact _) (wpAny_newObj_type (wpAny_pure (wpAny_pure ⟨_, rfl, wpAny_pure h⟩)) hr))
    | exact wpAny_bind (wpAny_bind (m := Builtin.Tuple.tupleExact _) (wpAny_newObj_type (wpAny_pure ⟨_, rfl, wpAny_pure h⟩) hr))
end
section
variable {X : Cx}
/-- x[::-1] of a list or a tuple -/
def tRevA (K : W.Frag) (te : TE) : TE := fun σ H Q => te σ H fun x H1 => ∃ a xs, x = .ref a ∧ ((SqL K H1 a xs ∧ ∀ p, H1 p = none → Q (.ref p) (upd H1 p (.lst xs.reverse))) ∨ (SqT K H1 a xs ∧ NewT Q H1 xs.reverse))
theorem pe_revA {e : Expr} {te : TE} {k : Nat} {p1 p2 p3 pos : Pos} (he : PE X e te) : PE X (.Subscript e (.Slice none none (some (.UnaryOp .USub (.Constant (.int 1) k p1) p2)) p3) pos) (tRevA X.K te) := by
  refine ⟨fun pins s σ H Q I h => Subscript_ (thn (he.run pins s σ H _ I h) fun v s1 ⟨x, H1, I1, r1, a, xs, ex, q⟩ => ?_)⟩
  subst ex
  cases r1
  have hst : PO X (some (.UnaryOp .USub (.Constant (.int 1) k p1) p2)) (tPart (tUn (rU fun i => .int (-i)) (tC (.int 1)))) := po_some (pe_un un_neg pe_int)
  refine wpAny_Slice (thn (po_none.run pins s1 σ H1 (fun o H2 => o = none ∧ H2 = H1) I1 ⟨rfl, rfl⟩) fun vl s2 ⟨l, H2, I2, pl, el, e2⟩ => ?_)
  subst el e2
  refine thn (po_none.run pins s2 σ H2 (fun o H3 => o = none ∧ H3 = H2) I2 ⟨rfl, rfl⟩) fun vu s3 ⟨u, H3, I3, pu, eu, e3⟩ => ?_
  subst eu e3
  refine thn (hst.run pins s3 σ H3 (fun o H4 => o = some (-1) ∧ H4 = H3) I3 ⟨1, rfl, -1, rfl, rfl, rfl⟩) fun vs s4 ⟨o, H4, I4, ps, eo, e4⟩ => ?_
  subst eo e4
  have I5 : Inv X pins σ H4 { s4 with heap := s4.heap.push { cls := .type "slice", data := .fields #[vl, vu, vs] } } := I4.kept (t' := s4.toks) fun b ob q => Heap.get?_push_of_some _ q
  show wpAny (model X.prog X.w) X.A (subscriptTail e (.Slice none none (some (.UnaryOp .USub (.Constant (.int 1) k p1) p2)) p3) (.ref a) (.ref s4.heap.objs.size)) (EP X pins σ Q) X.xe { s4 with heap := s4.heap.push { cls := .type "slice", data := .fields #[vl, vu, vs] } }
  rcases q with ⟨hx, q⟩ | ⟨hx, q⟩
  · obtain ⟨its, r, ht, hz⟩ := I5.list hx
    have hlen := r.length
    refine tail_any (ops := [.ref a, .ref s4.heap.objs.size]) ht.isList.typeIs (PySem.slot_list_getitem.lookup) ?_ (by with_unfolding_all rfl)
    refine wpAny_getItem_list_slice ht.isList (Heap.IsSliceOf.new _ vl vu vs) pl pu ps (by decide) ?_ (by rw [List.size_toArray]; omega)
    rw [PySem.W.krv_pick]
    exact ⟨.ref _, _, I5.laid (t' := s4.toks) (o := .lst xs.reverse) (fun b ob q => Heap.get?_push_of_some _ q) (Nat.le_refl _) ⟨by rw [List.length_reverse]; exact hz, _, 0, r.reverse, Heap.get?_push_size _ rfl⟩, rfl, q _ (I5.hok.fresh (Nat.le_refl _))⟩
  · obtain ⟨its, r, ht, hz⟩ := I5.tuple hx
    have hlen := r.length
    refine tail_any (ops := [.ref a, .ref s4.heap.objs.size]) ht.typeIs PyProof.Rows.slot_tuple_getitem.lookup ?_ (by with_unfolding_all rfl)
    cases pl
    cases pu
    refine item_back ht (Heap.IsSliceOf.new _ .none .none vs) ps ?_ (by rw [List.size_toArray]; omega)
    exact newT_of (X := X) (t' := s4.toks) I5 (fun _ _ e => e) (by rw [List.length_reverse]; exact hz) r.reverse q
/-- a tuple times a number -/
def rRepP (K : W.Frag) : R2 := fun x y H Q => ∃ l k xs, x = .ref l ∧ y = .int k ∧ SqT K H l xs ∧ xs ≠ [] ∧ 2 ≤ k ∧ k ≤ 1000 ∧ xs.length ≤ 1000 ∧ NewT Q H (List.replicate k.toNat xs).flatten
theorem op_repP : OpR X (binaryOp .Mult) (rRepP X.K) := by
  intro pins s σ H x y v u Q I rx ry h
  obtain ⟨l, k, xs, rfl, rfl, hT, hne, h1, h2, hz, q⟩ := h
  cases rx
  obtain ⟨t, rfl⟩ := ry
  obtain ⟨its, r, ⟨⟨cls, dd, data, sl⟩, ho, hc, n, hd⟩, hs⟩ := I.tuple hT
  simp only at hc hd
  subst hc hd
  have le : its.length = xs.length := r.length.symm
  have ni : its ≠ [] := fun e => hne (List.eq_nil_of_length_eq_zero (by rw [← le, e]; rfl))
  have ie : its.toArray.isEmpty = false := by
    cases its with
    | nil => exact absurd rfl ni
    | cons a b => rfl
  have z0 : its.toArray.size = xs.length := by rw [List.size_toArray, le]
  have m1 : ((xs.length : Nat) : Int) * k ≤ 1000 * k := Int.mul_le_mul_of_nonneg_right (by omega) (by omega)
  have m2 : ((its.toArray.size : Nat) : Int) * k ≤ 1000000 := by rw [z0]; omega
  have m3 : k.toNat * xs.length ≤ 1000 * 1000 := Nat.mul_le_mul (by omega) hz
  have fl : (List.replicate k.toNat its).flatten.length ≤ sizeLine := by rw [PyProof.Rows.lm_len_rep_flat, le, sizeLine_eq]; omega
  have c0 : (decide (k < -(2 ^ 63)) || decide (k ≥ 2 ^ 63)) = false := by rw [decide_eq_false (by omega), decide_eq_false (by omega)] <;> rfl
  have c1 : (its.toArray.isEmpty || k == 1) = false := by rw [ie, Bool.false_or]; exact beq_eq_false_iff_ne.mpr (by omega)
  have c2 : (decide (k ≤ 0) || its.toArray.isEmpty) = false := by rw [ie, Bool.or_false]; exact decide_eq_false (by omega)
  have c4 : Builtin.Tuple.tupleTooMany (((its.toArray.size : Nat) : Int) * k) = false := by
    unfold Builtin.Tuple.tupleTooMany; rw [sizeLine_eq]; exact decide_eq_false (by omega)
  refine wpAny_binaryOp_repeat_ref (T := "tuple") (U := "int") (by decide) ⟨_, ho, rfl⟩ (fun s' => typeIs_int s' k t) noFill_tuple_mul F.fills_int_mul F.slot_int_rmul repeat_tuple F.slot_int_index.lookup
    (call_meets F.slot_int_rmul (typeIs_int s k t) F.entry_int_rmul (F.args_int_rmul_2 _ _) (int_rmul_tuple k t l its.toArray n dd sl)
      ⟨ho, rfl, ⟨_, ho, rfl⟩, call_meets F.slot_tuple_mul ⟨_, ho, rfl⟩ F.entry_tuple_mul (F.args_tuple_mul_2 _ _) (tuple_mulW l its.toArray n dd sl k t c0 c1 c2 (by omega) c4 (by rw [size_rep, List.size_toArray]; exact fl)) ⟨ho, ?_⟩⟩)
  rw [size_rep]
  exact newT_of (X := X) (t' := s.toks) I (fun _ _ e => e) (by rw [PyProof.Rows.lm_len_rep_flat, sizeLine_eq]; omega) (r.rep k.toNat) q
end
end MP

set_option Elab.async false
set_option linter.all false
set_option maxRecDepth 100000
set_option maxHeartbeats 1000000
/-! Operators, comparisons, slices, built-ins: from the layer's rules to trees. -/
namespace MP
open PySem PySem.Spec PyProof.Rows L2

theorem OpR.or {X : Cx} {f : Value → Value → Sem Value} {r r' : R2} (h : OpR X f r) (h' : OpR X f r') : OpR X f (fun x y H Q => r x y H Q ∨ r' x y H Q) := by
  intro pins s σ H x y v u Q I rx ry q
  rcases q with q | q
  · exact h pins s σ H x y v u Q I rx ry q
  · exact h' pins s σ H x y v u Q I rx ry q
/-- an operator of trees is served -/
def BinOk (X : Cx) (f : Value → Value → Sem Value) (S : D → D → KD → Prop) : Prop :=
  ∃ r : R2, OpR X f r ∧ ∀ (Z : Addr → Prop) (H : Hp) (x y : V) (da db : D) (b1 b2 : Cnt) (k : KD) (Q : VK), Own X.K Z H [x] [da] b1 → Own X.K Z H [y] [db] b2 → S da db k → Fin X.K Z H k Q → r x y H Q
section
variable {X : Cx}
theorem intK_ok {f : Value → Value → Sem Value} {C : Int → Int → Prop} {g : Int → Int → Int} (h : OpR X f (rI C fun i j => .int (g i j))) : BinOk X f (intK (fun i j => .int (g i j)) C) := by
  refine ⟨_, h, fun Z H x y da db b1 b2 k Q h1 h2 hs F => ?_⟩
  cases da <;> cases db <;> first | exact (show False from hs).elim | skip
  cases h1; cases h2
  exact ⟨_, _, rfl, rfl, hs.1, F.int hs.2⟩
theorem intK0_ok {f : Value → Value → Sem Value} {g : Int → Int → Int} (h : OpR X f (rI0 fun i j => .int (g i j))) : BinOk X f (intK0 (fun i j => .int (g i j))) := by
  refine ⟨_, h, fun Z H x y da db b1 b2 k Q h1 h2 hs F => ?_⟩
  cases da <;> cases db <;> first | exact (show False from hs).elim | skip
  cases h1; cases h2
  exact ⟨_, _, rfl, rfl, F.int hs⟩
theorem never_ok {f : Value → Value → Sem Value} {S : D → D → KD → Prop} (h : ∀ a b k, ¬ S a b k) : BinOk X f S :=
  ⟨fun _ _ _ _ => False, fun _ _ _ _ _ _ _ _ _ _ _ _ q => q.elim, fun _ _ _ _ _ _ _ _ _ _ _ _ hs _ => (h _ _ _ hs).elim⟩
theorem big_eq : big = sizeLine := sizeLine_eq.symm
theorem addS_ok : BinOk X (binaryOp .Add) addS := by
  refine ⟨_, OpR.or (OpR.or op_add op_add_str) (OpR.or op_catP op_cat), fun Z H x y da db b1 b2 k Q h1 h2 hs F => ?_⟩
  cases da <;> cases db <;> first | exact (show False from hs).elim | skip
  · cases h1; cases h2
    exact .inl (.inl ⟨_, _, rfl, rfl, F.int hs⟩)
  · cases h1; cases h2
    exact .inl (.inr ⟨_, _, rfl, rfl, by rw [← big_eq]; exact hs.1, F.str hs.2⟩)
  · rename_i xs ys
    cases h1 with
    | tup q1 e1 t1 =>
      cases t1
      cases h2 with
      | tup q2 e2 t2 =>
        cases t2
        rename_i p us p' us'
        have l1 := e1.len
        have l2 := e2.len
        refine .inr (.inl ⟨p, p', us, us', rfl, rfl, q1.seq, q2.seq, by rw [← big_eq, l1, l2]; exact hs.1, fun hu => ?_, fun _ hu => ?_, fun _ _ a ob hd ha => ?_⟩)
        · subst hu
          have : xs = [] := List.eq_nil_of_length_eq_zero (by simpa using l1.symm)
          subst this
          exact F.im _ _ hs.2 (.tup q2 e2 .nil)
        · subst hu
          have : ys = [] := List.eq_nil_of_length_eq_zero (by simpa using l2.symm)
          subst this
          have hk := hs.2
          rw [List.append_nil] at hk
          exact F.im _ _ hk (.tup q1 e1 .nil)
        · exact F.tup _ _ a ob hd hs.2 ((e1.app e2).cast fun _ => rfl) ha
  · rename_i xs ys
    cases h1 with
    | lst q1 e1 t1 =>
      cases t1
      cases h2 with
      | lst q2 e2 t2 =>
        cases t2
        rename_i p us bb p' us' bb'
        have l1 := e1.len
        have l2 := e2.len
        refine .inr (.inr ⟨p, p', us, us', rfl, rfl, q1, q2, by rw [← big_eq, l1, l2]; exact hs.1.2.2, fun a ha => ?_⟩)
        exact F.lst _ _ a hs.2 (((e1.imAll hs.1.1).app (e2.imAll hs.1.2.1)).cast fun _ => rfl) ha
theorem rep_len {α : Type} (k : Nat) (xs : List α) : (List.replicate k xs).flatten.length = k * xs.length := by simp
theorem Own.rep {K : W.Frag} {Z : Addr → Prop} {H : Hp} {us : List V} {es : List D} (h : Own K Z H us es fun _ => 0) : ∀ n : Nat, Own K Z H (List.replicate n us).flatten (List.replicate n es).flatten fun _ => 0
  | 0 => .nil
  | n + 1 => by
    rw [List.replicate_succ, List.replicate_succ, List.flatten_cons, List.flatten_cons]
    exact (h.app (Own.rep h n)).cast fun _ => rfl
theorem mulS_ok : BinOk X (binaryOp .Mult) mulS := by
  refine ⟨_, OpR.or op_mul (OpR.or op_repP op_rep), fun Z H x y da db b1 b2 k Q h1 h2 hs F => ?_⟩
  cases da <;> cases db <;> first | exact (show False from hs).elim | skip
  · cases h1; cases h2
    exact .inl ⟨_, _, rfl, rfl, hs.1, F.int hs.2⟩
  · rename_i xs j
    obtain ⟨⟨hs1, hs2, hs3, hs4⟩, hk⟩ := hs
    cases h2
    cases h1 with
    | @tup p us _ _ _ _ q e t =>
      cases t
      have l := e.len
      refine .inr (.inl ⟨p, j, us, rfl, rfl, q.seq, fun z => hs1 (List.eq_nil_of_length_eq_zero (by rw [← l, z]; rfl)), hs2, hs3, by omega, fun a ob hd ha => ?_⟩)
      exact F.tup _ _ a ob hd hk (e.rep _) ha
  · rename_i xs j
    obtain ⟨⟨hs1, hs2, hs3, hs4⟩, hk⟩ := hs
    cases h2
    cases h1 with
    | lst q e t =>
      cases t
      have l := e.len
      refine .inr (.inr ⟨_, j, _, rfl, rfl, q, by omega, by omega, ?_, fun a ha => ?_⟩)
      · rw [sizeLine_eq, l]
        have : xs.length * j.toNat ≤ 1000 * 1000 := Nat.mul_le_mul hs4 (by omega)
        omega
      · exact F.lst _ _ a hk ((e.imAll hs1).rep _) ha
theorem binS_ok (op : Operator) : BinOk X (binaryOp op) (binS op) := by
  cases op with
  | Add => exact addS_ok
  | Sub => exact intK0_ok op_sub
  | Mult => exact mulS_ok
  | FloorDiv => exact intK_ok op_fdivW
  | Mod => exact intK_ok op_mod
  | Pow => exact intK_ok op_pow
  | LShift => exact intK_ok op_shl
  | RShift => exact intK_ok op_shr
  | BitAnd => exact intK0_ok op_and
  | BitOr => exact intK0_ok op_or
  | BitXor => exact intK0_ok op_xor
  | _ => exact never_ok fun _ _ _ h => h

/-! ### comparisons -/
theorem scal_of {Z : Addr → Prop} {H : Hp} {K : W.Frag} {x y : V} {da db : D} {b1 b2 : Cnt} {r : Bool} (h1 : Own K Z H [x] [da] b1) (h2 : Own K Z H [y] [db] b2) (h : scalD da db = some r) : scal x y = true ∧ decide (x = y) = r := by
  cases da <;> cases db <;> first | (exact absurd (show none = some r from h) (by simp)) | skip
  all_goals (cases h1; cases h2; have h := Option.some.inj h; subst h; refine ⟨rfl, ?_⟩; simp)
theorem pyAll_app : ∀ {a b : List D} {x y : List PyData}, pyAll a = some x → pyAll b = some y → pyAll (a ++ b) = some (x ++ y)
  | [], b, x, y, h1, h2 => by
    have h1 := Option.some.inj h1
    subst h1; exact h2
  | d :: a, b, x, y, h1, h2 => by
    unfold pyAll at h1
    cases e : py d with
    | none => rw [e] at h1; cases h1
    | some z =>
      rw [e] at h1
      cases e2 : pyAll a with
      | none => rw [e2] at h1; cases h1
      | some zs =>
        rw [e2] at h1
        have h1 := Option.some.inj h1
        subst h1
        show pyAll (d :: (a ++ b)) = _
        unfold pyAll
        rw [e, pyAll_app e2 h2]
        rfl
theorem Own.dp {K : W.Frag} {Z : Addr → Prop} {H : Hp} {vs : List V} {ds : List D} {c : Cnt} (h : Own K Z H vs ds c) : ∀ {xs : List PyData}, pyAll ds = some xs → DpAll K H vs xs := by
  induction h with
  | nil => intro xs e; have e := Option.some.inj e; subst e; exact .nil
  | bot _ _ => intro xs e; simp [pyAll, py] at e
  | non _ ih =>
    intro xs e
    rename_i ds _ _
    cases e2 : pyAll ds with
    | none => simp [pyAll, py, e2] at e
    | some ys => simp [pyAll, py, e2] at e; subst e; exact .cons .non (ih e2)
  | bl _ ih =>
    intro xs e
    rename_i ds _ _
    cases e2 : pyAll ds with
    | none => simp [pyAll, py, e2] at e
    | some ys => simp [pyAll, py, e2] at e; subst e; exact .cons (.bl _) (ih e2)
  | int _ ih =>
    intro xs e
    rename_i ds _ _
    cases e2 : pyAll ds with
    | none => simp [pyAll, py, e2] at e
    | some ys => simp [pyAll, py, e2] at e; subst e; exact .cons (.int _) (ih e2)
  | str _ ih =>
    intro xs e
    rename_i ds _ _
    cases e2 : pyAll ds with
    | none => simp [pyAll, py, e2] at e
    | some ys => simp [pyAll, py, e2] at e; subst e; exact .cons (.str _) (ih e2)
  | pr q _ _ i1 i2 =>
    intro xs e
    simp [pyAll, py] at e
  | fd q _ _ _ _ i1 i2 =>
    intro xs e
    simp [pyAll, py] at e
  | tup q _ _ i1 i2 =>
    intro xs e
    rename_i es _ ds _ _ _
    cases e1 : pyAll es with
    | none => simp [pyAll, py, e1] at e
    | some zs =>
      cases e2 : pyAll ds with
      | none => simp [pyAll, py, e1, e2] at e
      | some ys => simp [pyAll, py, e1, e2] at e; subst e; exact .cons (.tup q.seq (i1 e1)) (i2 e2)
  | fl q _ _ i1 i2 =>
    intro xs e
    rename_i es _ ds _ _ _
    cases e1 : pyAll es with
    | none => simp [pyAll, py, e1] at e
    | some zs =>
      cases e2 : pyAll ds with
      | none => simp [pyAll, py, e1, e2] at e
      | some ys => simp [pyAll, py, e1, e2] at e; subst e; exact .cons (.lst q.seq (i1 e1)) (i2 e2)
  | lst q _ _ i1 i2 =>
    intro xs e
    rename_i es _ _ ds _ _ _
    cases e1 : pyAll es with
    | none => simp [pyAll, py, e1] at e
    | some zs =>
      cases e2 : pyAll ds with
      | none => simp [pyAll, py, e1, e2] at e
      | some ys => simp [pyAll, py, e1, e2] at e; subst e; exact .cons (.lst (.of q) (i1 e1)) (i2 e2)
  | dct _ _ _ _ _ _ _ => intro xs e; simp [pyAll, py] at e
theorem Own.dp1 {K : W.Frag} {Z : Addr → Prop} {H : Hp} {v : V} {d : D} {c : Cnt} (h : Own K Z H [v] [d] c) {x : PyData} (e : py d = some x) : Dp K H v x := by
  have q : pyAll [d] = some [x] := by simp [pyAll, e]
  cases h.dp q with
  | cons a _ => exact a
theorem eqS_ok (hu : X.A.units + 64 < cLine) : BinOk X (compareOp .Eq) (eqS fun r => .bl r) := by
  refine ⟨_, OpR.or op_eq (op_eqD hu), fun Z H x y da db b1 b2 k Q h1 h2 hs F => ?_⟩
  unfold eqS at hs
  cases e : scalD da db with
  | some r =>
    rw [e] at hs
    obtain ⟨e1, e2⟩ := scal_of h1 h2 e
    exact .inl ⟨e1, by rw [e2]; exact F.bl hs⟩
  | none =>
    rw [e] at hs
    obtain ⟨a, b, p1, p2, s1, s2, q⟩ := hs
    exact .inr ⟨a, b, h1.dp1 p1, h2.dp1 p2, s1, s2, F.bl q⟩
theorem neS_ok (hu : X.A.units + 64 < cLine) : BinOk X (compareOp .NotEq) (eqS fun r => .bl (!r)) := by
  refine ⟨_, OpR.or op_ne (op_neD hu), fun Z H x y da db b1 b2 k Q h1 h2 hs F => ?_⟩
  unfold eqS at hs
  cases e : scalD da db with
  | some r =>
    rw [e] at hs
    obtain ⟨e1, e2⟩ := scal_of h1 h2 e
    exact .inl ⟨e1, by rw [e2]; exact F.bl hs⟩
  | none =>
    rw [e] at hs
    obtain ⟨a, b, p1, p2, s1, s2, q⟩ := hs
    exact .inr ⟨a, b, h1.dp1 p1, h2.dp1 p2, s1, s2, F.bl q⟩
/-- a list against [] -/
def rNile (K : W.Frag) (ne : Bool) : R2 := fun x y H Q => ∃ a b us, x = .ref a ∧ y = .ref b ∧ SqL K H a us ∧ SqL K H b [] ∧ Q (.bl (match ne with
  | true => !us.isEmpty
  | false => us.isEmpty)) H
def nileOp (ne : Bool) : CmpOp := match ne with
  | true => .NotEq
  | false => .Eq
theorem op_nile (hu : X.A.units + 64 < cLine) (ne : Bool) : OpR X (compareOp (nileOp ne)) (rNile X.K ne) := by
  intro pins s σ H x y v u Q I rx ry h
  obtain ⟨a, b, us, rfl, rfl, h1, h2, q⟩ := h
  by_cases e : us = []
  · subst e
    have d1 : Dp X.K H (.ref a) (.list []) := .lst h1 .nil
    have d2 : Dp X.K H (.ref b) (.list []) := .lst h2 .nil
    cases ne with
    | true => exact op_neD hu pins s σ H _ _ v u Q I rx ry ⟨_, _, d1, d2, rfl, rfl, q⟩
    | false => exact op_eqD hu pins s σ H _ _ v u Q I rx ry ⟨_, _, d1, d2, rfl, rfl, q⟩
  · cases (show v = Value.ref a from rx)
    cases (show u = Value.ref b from ry)
    obtain ⟨its, r1, p1, _⟩ := I.list h1
    obtain ⟨ws, r2, p2, _⟩ := I.list h2
    cases r2
    have hsz : (its.toArray.size != ([] : List Value).toArray.size) = true := by
      rw [List.size_toArray, List.size_toArray, ← r1.length]
      cases us with
      | nil => exact absurd rfl e
      | cons _ _ => rfl
    have q' : Q (.bl ne) H := by
      cases us with
      | nil => exact absurd rfl e
      | cons _ _ => cases ne <;> exact q
    cases ne with
    | true => exact SeqAt.RcNeAt.lists_lengths p1.isList p2.isList hsz (by omega) _ _ _ _ ⟨.bl true, H, I, rfl, q'⟩
    | false => exact SeqAt.RcAt.lists_lengths p1.isList p2.isList hsz (by omega) _ _ _ _ ⟨.bl false, H, I, rfl, q'⟩
theorem ints_of {K : W.Frag} {Z : Addr → Prop} {H : Hp} : ∀ {ds : List D} {vs : List V} {c : Cnt} {ns : List Int}, Own K Z H vs ds c → ints? ds = some ns → vs = ns.map V.int
  | [], vs, c, ns, h, e => by
    have e := Option.some.inj e
    subst e
    cases h; rfl
  | d :: ds, vs, c, ns, h, e => by
    cases d <;> first | (exact absurd (show none = some ns from e) (by simp)) | skip
    rename_i i
    cases vs with
    | nil => have := h.len; simp at this
    | cons v vs =>
      obtain ⟨c1, c2, h1, h2, _⟩ := h.uncons
      cases h1
      unfold ints? at e
      cases e2 : ints? ds with
      | none => rw [e2] at e; cases e
      | some ms =>
        rw [e2] at e
        have e := Option.some.inj e
        subst e
        rw [ints_of h2 e2]; rfl
theorem ltS_ok (hu : X.A.units < cLine) : BinOk X (compareOp .Lt) ltS := by
  refine ⟨_, OpR.or (OpR.or op_lt op_lt_str) (op_ltT hu), fun Z H x y da db b1 b2 k Q h1 h2 hs F => ?_⟩
  cases da <;> cases db <;> first | exact (show False from hs).elim | skip
  · cases h1; cases h2
    exact .inl (.inl ⟨_, _, rfl, rfl, F.bl hs⟩)
  · cases h1; cases h2
    exact .inl (.inr ⟨_, _, rfl, rfl, F.bl hs⟩)
  · obtain ⟨ns, ms, e1, e2, q⟩ := hs
    cases h1 with
    | tup q1 x1 t1 =>
      cases t1
      cases h2 with
      | tup q2 x2 t2 =>
        cases t2
        have a1 := ints_of x1 e1
        have a2 := ints_of x2 e2
        subst a1 a2
        exact .inr ⟨_, _, ns, ms, rfl, rfl, q1.seq, q2.seq, F.bl q⟩
theorem lexAt_up (e r : Nat → Bool) (z : Bool) : ∀ k i, Ob.lexAt e r z (i + 1) k = Ob.lexAt (fun j => e (j + 1)) (fun j => r (j + 1)) z i k
  | 0, _ => rfl
  | k + 1, i => by rw [Ob.lexAt_succ, Ob.lexAt_succ, lexAt_up e r z k (i + 1)]
theorem lexAt_le : ∀ ns ms : List Int, Ob.lexAt (fun j => decide (ns.getD j 0 = ms.getD j 0)) (fun j => decide (ns.getD j 0 ≤ ms.getD j 0)) (decide (ns.length ≤ ms.length)) 0 (min ns.length ms.length) = !HT.lexLt ms ns
  | [], [] => rfl
  | [], _ :: _ => by simp [Ob.lexAt_zero, HT.lexLt]
  | _ :: _, [] => by simp [Ob.lexAt_zero, HT.lexLt]
  | x :: ns, y :: ms => by
    have ih := lexAt_le ns ms
    rw [List.length_cons, List.length_cons, Nat.succ_min_succ, Ob.lexAt_succ, lexAt_up, HT.lexLt_cons]
    simp only [List.getD_cons_zero, List.getD_cons_succ, Nat.succ_le_succ_iff, Nat.zero_add] at ih ⊢
    by_cases h : x = y
    · subst h
      simp only [decide_true, if_true]
      exact ih
    · rw [if_neg (by simpa using h), if_neg fun q => h q.symm]
      by_cases h2 : x ≤ y
      · rw [decide_eq_true h2, decide_eq_false (by omega)]; rfl
      · rw [decide_eq_false h2, decide_eq_true (by omega)]; rfl
theorem leS_ok (hu : X.A.units < cLine) : BinOk X (compareOp .LtE) leS := by
  refine ⟨_, OpR.or op_le (op_leT hu), fun Z H x y da db b1 b2 k Q h1 h2 hs F => ?_⟩
  cases da <;> cases db <;> first | exact (show False from hs).elim | skip
  · cases h1; cases h2
    exact .inl ⟨_, _, rfl, rfl, F.bl hs⟩
  · obtain ⟨ns, ms, e1, e2, q⟩ := hs
    cases h1 with
    | tup q1 x1 t1 =>
      cases t1
      cases h2 with
      | tup q2 x2 t2 =>
        cases t2
        have a1 := ints_of x1 e1
        have a2 := ints_of x2 e2
        subst a1 a2
        exact .inr ⟨_, _, ns, ms, rfl, rfl, q1.seq, q2.seq, by rw [lexAt_le]; exact F.bl q⟩
theorem gtS_ok : BinOk X (compareOp .Gt) gtS := by
  refine ⟨_, op_gt, fun Z H x y da db b1 b2 k Q h1 h2 hs F => ?_⟩
  cases da <;> cases db <;> first | exact (show False from hs).elim | skip
  cases h1; cases h2
  exact ⟨_, _, rfl, rfl, F.bl hs⟩
theorem geS_ok : BinOk X (compareOp .GtE) geS := by
  refine ⟨_, op_ge, fun Z H x y da db b1 b2 k Q h1 h2 hs F => ?_⟩
  cases da <;> cases db <;> first | exact (show False from hs).elim | skip
  cases h1; cases h2
  exact ⟨_, _, rfl, rfl, F.bl hs⟩
theorem isNon_of {K : W.Frag} {Z : Addr → Prop} {H : Hp} {x : V} {d : D} {c : Cnt} (h : Own K Z H [x] [d] c) (hd : d ≠ .bot) : decide (x = .non) = isNon d := by
  cases h <;> first | exact absurd rfl hd | simp [isNon]
theorem isS_ok : BinOk X (compareOp .Is) (isS fun r => .bl r) := by
  refine ⟨_, OpR.or op_isN op_isBl, fun Z H x y da db b1 b2 k Q h1 h2 hs F => ?_⟩
  cases da <;> cases db <;> first | exact (show False from hs).elim | skip
  all_goals first
    | (cases h2; exact .inl ⟨rfl, by rw [isNon_of h1 (by simp)]; exact F.bl hs⟩)
    | (cases h1; cases h2; exact .inr ⟨_, _, rfl, rfl, F.bl hs⟩)
theorem notS_ok : BinOk X (compareOp .IsNot) (isS fun r => .bl (!r)) := by
  refine ⟨_, OpR.or op_notN op_notBl, fun Z H x y da db b1 b2 k Q h1 h2 hs F => ?_⟩
  cases da <;> cases db <;> first | exact (show False from hs).elim | skip
  all_goals first
    | (cases h2; exact .inl ⟨rfl, by rw [isNon_of h1 (by simp)]; exact F.bl hs⟩)
    | (cases h1; cases h2; exact .inr ⟨_, _, rfl, rfl, F.bl hs⟩)
theorem in_ints {i : Int} : ∀ {ns : List Int}, inV (.int i) (ns.map V.int) = ns.contains i
  | [] => rfl
  | n :: ns => by
    show (eqV (.int n) (.int i) || inV (.int i) (ns.map V.int)) = _
    rw [in_ints, List.contains_cons]
    show ((n == i) || _) = _
    rw [show (n == i) = (i == n) from decide_eq_decide.mpr ⟨Eq.symm, Eq.symm⟩]
theorem flat_ints : ∀ {ns : List Int}, (ns.map V.int).all flatV = true
  | [] => rfl
  | n :: ns => by
    show (true && (ns.map V.int).all flatV) = true
    rw [flat_ints]; rfl
theorem seq_of {K : W.Frag} {Z : Addr → Prop} {H : Hp} {y : V} {d : D} {b : Cnt} {xs : List D} (h : Own K Z H [y] [d] b) (e : seqD d = some xs) : ∃ p us c, y = .ref p ∧ (SqL K H p us ∨ SqT K H p us) ∧ Own K Z H us xs c := by
  cases d <;> first | (cases e; done) | skip
  · have e := Option.some.inj e
    subst e
    cases h with
    | tup q o _ => exact ⟨_, _, _, rfl, .inr q.seq, o⟩
  · have e := Option.some.inj e
    subst e
    cases h with
    | lst q o _ => exact ⟨_, _, _, rfl, .inl (.of q), o⟩
  · have e := Option.some.inj e
    subst e
    cases h with
    | fl q o _ => exact ⟨_, _, _, rfl, .inl q.seq, o⟩
section
variable {K : W.Frag} {Z : Addr → Prop} {H : Hp} {us : List V} {es : List D} {b : Cnt}
theorem valV_kix : ∀ {kvs : List (Key × V)} {key : Key} {n : Nat}, kix (kvs.map (·.1)) key = some n → ∃ v, (kvs.map (·.2))[n]? = some v ∧ valV kvs key = some v
  | [], key, n, e => by simp [kix] at e
  | (k', v) :: r, key, n, e => by
    unfold kix at e
    rw [List.map_cons, List.findIdx?_cons] at e
    by_cases h : k' = key
    · simp [h] at e
      subst e
      exact ⟨v, rfl, by rw [valV_pos (p := (k', v)) h]⟩
    · simp [h] at e
      obtain ⟨m, e1, e2⟩ := e
      subst e2
      obtain ⟨v', q1, q2⟩ := valV_kix (kvs := r) (key := key) (n := m) (by unfold kix; rw [List.findIdx?_map]; exact e1)
      exact ⟨v', q1, by rw [valV_neg (p := (k', v)) h]; exact q2⟩
theorem keyOf_v {x : V} {d : D} {c : Cnt} {key : Key} (h : Own K Z H [x] [d] c) (e : keyOf d = some key) : x = kV key := by
  cases h <;> first | (exact absurd (show none = some key from e) (by simp)) | (have e := Option.some.inj e; subst e; rfl)
theorem valV_none : ∀ {kvs : List (Key × V)} {key : Key}, kix (kvs.map (·.1)) key = none → valV kvs key = none
  | [], key, _ => rfl
  | (k', v) :: r, key, e => by
    unfold kix at e
    rw [List.map_cons, List.findIdx?_cons] at e
    by_cases h : k' = key
    · simp [h] at e
    · rw [valV_neg (p := (k', v)) h]
      refine valV_none ?_
      unfold kix
      simpa [h] using e
theorem kix_some_of : ∀ {ks : List Key} {key : Key}, key ∈ ks → ∃ n, kix ks key = some n := by
  intro ks key h
  cases e : kix ks key with
  | some n => exact ⟨n, rfl⟩
  | none =>
    unfold kix at e
    rw [List.findIdx?_eq_none_iff] at e
    have := e key h
    simp at this
theorem kix_mem {ks : List Key} {key : Key} {n : Nat} (h : kix ks key = some n) : key ∈ ks ∧ ks[n]? = some key := by
  unfold kix at h
  rw [List.findIdx?_eq_some_iff_getElem] at h
  obtain ⟨h1, h2, _⟩ := h
  have h2 : ks[n] = key := by simpa using h2
  exact ⟨h2 ▸ List.getElem_mem h1, by rw [List.getElem?_eq_getElem h1, h2]⟩
theorem dget_mem {a : Addr} {kvs : List (Key × V)} {key : Key} (e : Rd H a (.dK kvs)) : ∃ o, DGet H a (kV key) o ∧ o.isSome = (kix (kvs.map (·.1)) key).isSome := by
  refine ⟨_, .inl ⟨kvs, key, e, rfl, rfl⟩, ?_⟩
  cases q : kix (kvs.map (·.1)) key with
  | none => rw [valV_none q]; rfl
  | some n =>
    obtain ⟨v, _, e2⟩ := valV_kix q
    rw [e2]; rfl
theorem dct_of {y : V} {d : D} {ks : List Key} {b : Cnt} (h : Own K Z H [y] [d] b) (e : dctK d = some ks) : ∃ p kvs, y = .ref p ∧ Rd H p (.dK kvs) ∧ kvs.map (·.1) = ks := by
  cases h <;> first | (exact absurd (show none = some ks from e) (by simp)) | skip
  · rename_i q hk hn o t
    have e := Option.some.inj e
    exact ⟨_, _, rfl, q.rd, hk.trans e⟩
  · rename_i q hk hn o t
    have e := Option.some.inj e
    exact ⟨_, _, rfl, .inl q, hk.trans e⟩
end
def rInK (f : Bool → V) : R2 := fun x y H Q => ∃ a key o, y = .ref a ∧ x = kV key ∧ DGet H a (kV key) o ∧ Q (f o.isSome) H
theorem op_inK (hu : X.A.units + 1 < cLine) : OpR X (compareOp .In) (rInK fun r => .bl r) := by
  rintro pins s σ H x y v u Q I rx ry ⟨a, key, o, rfl, rfl, g, q⟩
  cases ry
  exact d_in hu I g rx fun s' I' => ⟨.bl _, H, I', rfl, q⟩
theorem op_notInK (hu : X.A.units + 1 < cLine) : OpR X (compareOp .NotIn) (rInK fun r => .bl !r) := by
  rintro pins s σ H x y v u Q I rx ry ⟨a, key, o, rfl, rfl, g, q⟩
  cases ry
  exact d_notIn hu I g rx fun s' I' => ⟨.bl _, H, I', rfl, q⟩
/-- x in t, t a tuple of data -/
def rInTD (K : W.Frag) (f : Bool → V) : R2 := fun x y H Q => ∃ d ds, Dp K H x d ∧ Dp K H y (.tuple ds) ∧ SeqAt.shaped d = true ∧ SeqAt.shaped (.tuple ds) = true ∧ Q (f (ds.any fun z => PyData.eqv z d)) H
theorem op_inTD (hu : X.A.units + 65 < cLine) : OpR X (compareOp .In) (rInTD X.K fun r => .bl r) := by
  rintro pins s σ H x y v u Q I rx ry ⟨d, ds, hd, he, sd, se, q⟩
  obtain ⟨as, r1⟩ := Dp.reads I d x v hd rx
  obtain ⟨bs, r2⟩ := Dp.reads I (.tuple ds) y u he ry
  exact SeqAt.in_tuple_reads r2 r1 (SeqAt.canLay_of_shaped se) (SeqAt.canLay_of_shaped sd) (room_in_shaped sd hu) ⟨.bl _, H, I, rfl, q⟩
theorem op_notInTD (hu : X.A.units + 65 < cLine) : OpR X (compareOp .NotIn) (rInTD X.K fun r => .bl !r) := by
  rintro pins s σ H x y v u Q I rx ry ⟨d, ds, hd, he, sd, se, q⟩
  obtain ⟨as, r1⟩ := Dp.reads I d x v hd rx
  obtain ⟨bs, r2⟩ := Dp.reads I (.tuple ds) y u he ry
  exact SeqAt.notIn_tuple_reads r2 r1 (SeqAt.canLay_of_shaped se) (SeqAt.canLay_of_shaped sd) (room_in_shaped sd hu) ⟨.bl _, H, I, rfl, q⟩
theorem inS_ok (hu : X.A.units + 65 < cLine) : BinOk X (compareOp .In) (inS fun r => .bl r) := by
  refine ⟨_, OpR.or (op_inK (by omega)) (OpR.or op_in_seq (OpR.or (op_inD hu) (op_inTD hu))), fun Z H x y da db b1 b2 k Q h1 h2 hs F => ?_⟩
  unfold inS at hs
  cases ed : dctK db with
  | some ks =>
    simp only [ed] at hs
    obtain ⟨key, e1, q⟩ := hs
    obtain ⟨p, kvs, rfl, hp, rfl⟩ := dct_of h2 ed
    have := keyOf_v h1 e1
    subst this
    obtain ⟨o, g1, g2⟩ := dget_mem (key := key) hp
    exact .inl ⟨p, key, o, rfl, rfl, g1, by rw [g2]; exact F.bl q⟩
  | none =>
    simp only [ed] at hs
    rcases hs with ⟨i, xs, ns, rfl, e1, e2, q⟩ | ⟨u, ys, e1, e2, s1, s2, q⟩ | ⟨u, ys, e1, e2, s1, s2, q⟩
    · obtain ⟨p, us, c, rfl, hq, o⟩ := seq_of h2 e1
      cases h1
      refine .inr (.inl ⟨p, us, rfl, hq, rfl, ?_, ?_⟩)
      · rw [ints_of o e2]; exact flat_ints
      · rw [ints_of o e2, in_ints]; exact F.bl q
    · exact .inr (.inr (.inl ⟨u, ys, h1.dp1 e1, h2.dp1 e2, s1, s2, F.bl q⟩))
    · exact .inr (.inr (.inr ⟨u, ys, h1.dp1 e1, h2.dp1 e2, s1, s2, F.bl q⟩))
theorem notInS_ok (hu : X.A.units + 65 < cLine) : BinOk X (compareOp .NotIn) (inS fun r => .bl (!r)) := by
  refine ⟨_, OpR.or (op_notInK (by omega)) (OpR.or op_notIn_seq (OpR.or (op_notInD hu) (op_notInTD hu))), fun Z H x y da db b1 b2 k Q h1 h2 hs F => ?_⟩
  unfold inS at hs
  cases ed : dctK db with
  | some ks =>
    simp only [ed] at hs
    obtain ⟨key, e1, q⟩ := hs
    obtain ⟨p, kvs, rfl, hp, rfl⟩ := dct_of h2 ed
    have := keyOf_v h1 e1
    subst this
    obtain ⟨o, g1, g2⟩ := dget_mem (key := key) hp
    exact .inl ⟨p, key, o, rfl, rfl, g1, by rw [g2]; exact F.bl q⟩
  | none =>
    simp only [ed] at hs
    rcases hs with ⟨i, xs, ns, rfl, e1, e2, q⟩ | ⟨u, ys, e1, e2, s1, s2, q⟩ | ⟨u, ys, e1, e2, s1, s2, q⟩
    · obtain ⟨p, us, c, rfl, hq, o⟩ := seq_of h2 e1
      cases h1
      refine .inr (.inl ⟨p, us, rfl, hq, rfl, ?_, ?_⟩)
      · rw [ints_of o e2]; exact flat_ints
      · rw [ints_of o e2, in_ints]; exact F.bl q
    · exact .inr (.inr (.inl ⟨u, ys, h1.dp1 e1, h2.dp1 e2, s1, s2, F.bl q⟩))
    · exact .inr (.inr (.inr ⟨u, ys, h1.dp1 e1, h2.dp1 e2, s1, s2, F.bl q⟩))
theorem cmpS_ok (hu : X.A.units + 65 < cLine) (op : CmpOp) : BinOk X (compareOp op) (cmpS op) := by
  cases op with
  | Lt => exact ltS_ok (by omega)
  | LtE => exact leS_ok (by omega)
  | Gt => exact gtS_ok
  | GtE => exact geS_ok
  | Eq => exact eqS_ok (by omega)
  | NotEq => exact neS_ok (by omega)
  | Is => exact isS_ok
  | IsNot => exact notS_ok
  | In => exact inS_ok hu
  | NotIn => exact notInS_ok hu

/-! ### slices -/
theorem IxR.or3 {r r' r'' : R2} (h : IxR X r) (h' : IxR X r') (h'' : IxR X r'') : IxR X (fun x y H Q => (r x y H Q ∨ r' x y H Q) ∨ r'' x y H Q) := IxR.or (IxR.or h h') h''
def slR (K : W.Frag) : V → Option Int → Option Int → Hp → VK → Prop := fun x lo hi H Q => (rSlP K x lo hi H Q ∨ rSlL K x lo hi H Q) ∨ rSlS x lo hi H Q
theorem sl_all : SlR X (slR X.K) := SlR.or (SlR.or sl_tupP sl_list) sl_str
theorem slcS_ok {K : W.Frag} {Z : Addr → Prop} {H : Hp} {x : V} {d : D} {b : Cnt} {lo hi : Option Int} {k : KD} {Q : VK} (h : Own K Z H [x] [d] b) (hs : slcS d lo hi k) (F : Fin K Z H k Q) : slR K x lo hi H Q := by
  cases d <;> first | exact (show False from hs).elim | skip
  · cases h
    exact .inr ⟨_, rfl, by rw [← big_eq]; exact hs.1, F.str hs.2⟩
  · cases h with
    | tup q e t =>
      cases t
      rename_i xs p us
      obtain ⟨b', e', q'⟩ := e.cut (lo := lo) (hi := hi)
      have e0 := e'.zero_of q'
      refine .inl (.inl ⟨p, us, rfl, q.seq, fun hw => ?_, fun hw a ob hd ha => F.tup _ _ a ob hd hs e0 ha⟩)
      have hl := e.len
      have hc : cutD xs lo hi = xs := by
        unfold cutD
        rw [← hl, hw.1, hw.2, List.drop_zero, Nat.sub_zero, hl]
        exact List.take_length
      have hs : k (.tup (cutD xs lo hi)) := hs
      rw [hc] at hs
      exact F.im _ _ hs (.tup q e .nil)
  · cases h with
    | lst q e t =>
      cases t
      rename_i xs p us bb
      obtain ⟨b', e', q'⟩ := e.cut (lo := lo) (hi := hi)
      exact .inl (.inr ⟨p, us, rfl, .of q, fun a ha => F.lst _ _ a hs.2 (e'.imAll hs.1) ha⟩)
  · cases h with
    | fl q e t =>
      cases t
      rename_i xs p us
      obtain ⟨b', e', q'⟩ := e.cut (lo := lo) (hi := hi)
      exact .inl (.inr ⟨p, us, rfl, q.seq, fun a ha => F.lst _ _ a hs (e'.zero_of q') ha⟩)
end
end MP

set_option Elab.async false
set_option linter.all false
set_option maxRecDepth 100000
set_option maxHeartbeats 1000000
/-! sorted of pairs of ints. -/
namespace MP
open PySem PySem.Spec PyProof.Rows L2

abbrev IP := Int × Int
/-- values that are pairs of ints -/
inductive PP (K : W.Frag) (H : Hp) : List V → List IP → Prop
  | nil : PP K H [] []
  | cons {t p xs ps} : SqP K H t [.int p.1, .int p.2] → PP K H xs ps → PP K H (.ref t :: xs) (p :: ps)
theorem PP.len {K : W.Frag} {H : Hp} {xs : List V} {ps : List IP} (h : PP K H xs ps) : xs.length = ps.length := by induction h <;> simp_all
def ltIP (p q : IP) : Bool := SrtO.lexB p q
def rSP (K : W.Frag) : List V → Hp → VK → Prop := fun vs H Q => ∃ (a : Addr) (xs : List V) (ps : List IP), vs = [.ref a] ∧ SqL K H a xs ∧ PP K H xs ps ∧
  ∀ (ys : List V) (qs : List IP) (p : Addr), PP K H ys qs → qs.Perm ps → qs.Pairwise (fun p q => ltIP q p = false) → H p = none → Q (.ref p) (upd H p (.lst ys))
open Classical in
noncomputable def kOf (K : W.Frag) (H : Hp) (v : V) : IP := if h : ∃ (p : IP) (t : Addr), v = .ref t ∧ SqT K H t [.int p.1, .int p.2] then h.choose else (0, 0)
def bV : Value → V
  | .ref a => .ref a
  | _ => .non
section
variable {X : Cx} {pins : List (Addr × Obj)} {σ : L2.St} {H : Hp} {s : Shared}
theorem kOf_eq (I : Inv X pins σ H s) {t : Addr} {p : IP} (h : SqT X.K H t [.int p.1, .int p.2]) : kOf X.K H (.ref t) = p := by
  have hx : ∃ (p : IP) (t' : Addr), V.ref t = .ref t' ∧ SqT X.K H t' [.int p.1, .int p.2] := ⟨p, t, rfl, h⟩
  unfold kOf
  rw [dif_pos hx]
  obtain ⟨t', e1, e2⟩ := hx.choose_spec
  have e1 := V.ref.inj e1
  subst e1
  have e3 := I.tuple_inj h e2
  injection e3 with e4 e5
  injection e5 with e5 _
  injection e4 with e4
  injection e5 with e5
  exact (Prod.ext e4 e5).symm
theorem PP.k (I : Inv X pins σ H s) {xs : List V} {ps : List IP} (h : PP X.K H xs ps) : ps = xs.map (kOf X.K H) ∧ ∀ x ∈ xs, ∃ t, x = .ref t ∧ SqP X.K H t [.int (kOf X.K H x).1, .int (kOf X.K H x).2] := by
  induction h with
  | nil => exact ⟨rfl, fun x h => nomatch h⟩
  | cons q t ih =>
    have e := kOf_eq I q.seq
    refine ⟨by rw [List.map_cons, e, ← ih.1], fun x hx => ?_⟩
    rcases List.mem_cons.mp hx with rfl | hx
    · exact ⟨_, rfl, by rw [e]; exact q⟩
    · exact ih.2 x hx
theorem PP.of {K : W.Frag} {H : Hp} {k : V → IP} : ∀ {xs : List V}, (∀ x ∈ xs, ∃ t, x = .ref t ∧ SqP K H t [.int (k x).1, .int (k x).2]) → PP K H xs (xs.map k)
  | [], _ => .nil
  | x :: xs, h => by
    obtain ⟨t, rfl, q⟩ := h x List.mem_cons_self
    exact .cons q (PP.of fun y hy => h y (List.mem_cons_of_mem _ hy))
theorem refs_bV {xs : List V} {us : List Value} (r : Vals xs us) (h : ∀ x ∈ xs, ∃ a, x = V.ref a) : xs = us.map bV ∧ ∀ u ∈ us, ∃ a, u = Value.ref a := by
  induction r with
  | nil => exact ⟨rfl, fun u h => nomatch h⟩
  | cons r t ih =>
    obtain ⟨a, rfl⟩ := h _ List.mem_cons_self
    obtain ⟨e1, e2⟩ := ih fun y hy => h y (List.mem_cons_of_mem _ hy)
    cases r
    refine ⟨by rw [List.map_cons, ← e1]; rfl, fun u hu => ?_⟩
    rcases List.mem_cons.mp hu with rfl | hu
    · exact ⟨_, rfl⟩
    · exact e2 u hu
theorem vals_bV : ∀ {us : List Value}, (∀ u ∈ us, ∃ a, u = Value.ref a) → Vals (us.map bV) us
  | [], _ => .nil
  | u :: us, h => by
    obtain ⟨a, rfl⟩ := h u List.mem_cons_self
    exact .cons (show RelV (.ref a) (.ref a) from rfl) (vals_bV fun y hy => h y (List.mem_cons_of_mem _ hy))
theorem call_sortP : CallR X (.builtin "sorted") (rSP X.K) := by
  intro pins s σ H vs us Q I r h
  obtain ⟨a, xs, ps, rfl, hs, hp, q⟩ := h
  obtain ⟨its, rv, hl, hz⟩ := I.list hs
  have e0 := Vals.ref1 r
  subst e0
  obtain ⟨ek, hk⟩ := hp.k I
  obtain ⟨e1, e2⟩ := refs_bV rv fun x m => let ⟨t, e, _⟩ := hk x m; ⟨t, e⟩
  refine SrtO.sorted_pairsO (k := fun u => kOf X.K H (bV u)) hl.isList (by rw [← rv.length]; exact hz) (fun v hv => ?_) fun h' d out h1 h2 kp hd hn => ?_
  · obtain ⟨t, rfl⟩ := e2 v hv
    obtain ⟨t', e, q'⟩ := hk (.ref t) (by rw [e1]; exact List.mem_map.mpr ⟨_, hv, rfl⟩)
    cases e
    obtain ⟨its2, r2, ⟨o, ho, hc, n, hd⟩, _⟩ := I.tuple q'.seq
    obtain ⟨u1, u2, rfl, ri, rj⟩ := vals2 r2
    obtain ⟨t1, rfl⟩ := ri
    obtain ⟨t2, rfl⟩ := rj
    exact ⟨t, o, t1, t2, n, rfl, ho, hc, hd⟩
  · have h3 : ∀ u ∈ out, ∃ a, u = Value.ref a := fun u hu => e2 u (h2.perm.mem_iff.mp hu)
    obtain ⟨n, hn⟩ := hn
    have hperm : (out.map bV).Perm xs := by
      rw [e1]
      exact h2.perm.map bV
    refine ⟨.ref d, upd H d (.lst (out.map bV)), I.laid (t' := s.toks) kp hd ⟨?_, out, n, vals_bV h3, hn⟩, rfl, ?_⟩
    · rw [hperm.length_eq]; exact hz
    · refine q (out.map bV) ((out.map bV).map (kOf X.K H)) d (PP.of fun x hx => hk x (hperm.mem_iff.mp hx)) ?_ ?_ (I.hok.fresh hd)
      · rw [ek]
        exact hperm.map _
      · rw [List.pairwise_map, List.pairwise_map]
        exact List.Pairwise.imp (fun h => h) h1
end
end MP

set_option Elab.async false
set_option linter.all false
set_option maxRecDepth 100000
/-! enumerate of a list or a tuple. -/
namespace MP
open PySem PySem.Spec PyProof.Rows L2
open Sem (wp)

set_option maxHeartbeats 2000000 in
theorem enumB_new {v : Value} {o : Obj} {G : Heap → Prop} (B : Begins v o G) :
    Meets (Builtin.«enumerate.__new__» ⟨[.type "enumerate", v], []⟩) (fun _ R s => G s.heap ∧
      R (.ok (.ret (.ref (s.heap.push o).objs.size))) { s with heap := (s.heap.push o).push { cls := .type "enumerate", data := .fields #[.none, .bool false, .ref s.heap.objs.size, rawInt 0, .none, .none] } }) :=
  .of_wp fun prog w A R s h => by
    obtain ⟨hp, gs, dr, tk, os⟩ := s
    obtain ⟨h1, h⟩ := h
    have hsub := sub_enumerate
    have qi : ∀ {A' : Around} {E : Value → Shared → Prop} {Q : Value → Shared → Prop}, Q (.ref hp.objs.size) ⟨hp.push o, gs, dr, tk, os⟩ → wpAny (model prog w) A' (pyIter v) Q E ⟨hp, gs, dr, tk, os⟩ :=
      fun q => B.iter prog w _ _ ⟨hp, gs, dr, tk, os⟩ _ h1 q
    wp_walk using qi
    refine wpAny_stack_any fun st => wpAny_pure ?_
    split
    · rename_i c _ _ _ _ _
      cases (c == Value.type "enumerate") <;> (wp_walk using qi; exact ⟨_, rfl, h⟩)
    · wp_walk using qi
      exact ⟨_, rfl, h⟩
section
variable {prog : Program} {w : World} {A : Around} {E : Value → Shared → Prop} {s : Shared}
theorem enumB_call {v : Value} {o : Obj} {G : Heap → Prop} {Q : Value → Shared → Prop} (B : Begins v o G) (h1 : G s.heap)
    (h : ∀ h', IsEnum h' (s.heap.objs.size + 1) s.heap.objs.size 0 .none → h'.get? s.heap.objs.size = some o → (∀ b u, s.heap.get? b = some u → h'.get? b = some u) → Q (.ref (s.heap.objs.size + 1)) { s with heap := h' }) :
    wpAny (model prog w) A (call (.type "enumerate") [v]) Q E s := by
  refine callType_new F.called_enumerate (by decide) (F.typeCall_enumerate_1 _) (F.newCall_enumerate_1 _) (fun obj => F.args_object_init_2 obj _) F.entry_enumerate_new (enumB_new B) ⟨h1, ?_⟩
  have hz : (s.heap.push o).objs.size = s.heap.objs.size + 1 := Heap.size_push ..
  show _ ∧ _
  rw [hz]
  have he : IsEnum ((s.heap.push o).push { cls := .type "enumerate", data := .fields #[.none, .bool false, .ref s.heap.objs.size, rawInt 0, .none, .none] }) (s.heap.objs.size + 1) s.heap.objs.size 0 .none := by
    rw [← hz]
    have := Heap.get?_push_size (s.heap.push o) (o := { cls := .type "enumerate", data := .fields #[.none, .bool false, .ref s.heap.objs.size, rawInt 0, .none, .none] }) rfl
    exact this
  exact ⟨⟨_, he, rfl⟩, h _ he (Heap.get?_push_of_some _ (Heap.get?_push_size _ B.free)) fun b u x => Heap.get?_push_of_some _ (Heap.get?_push_of_some _ x)⟩
end
/-- the tuple at a, each item in a new pair -/
def IteT (K : W.Frag) (a : Addr) : It :=
  ⟨fun i H => ∃ (xs : List V) (x : V), SqT K H a xs ∧ xs[i]? = some x, fun i H v H' => ∃ T x, v = .ref T ∧ H T = none ∧ H' = upd H T (.tup [.int (i : Nat), x]) ∧ ∀ xs, SqT K H a xs → xs[i]? = some x, fun i H => ∃ xs : List V, SqT K H a xs ∧ xs.length = i⟩
theorem turn_enumT {P : Program} {w : World} {K : W.Frag} {elts : List Expr} {kk : Nat} {tpos : Pos} (a e it : Addr) :
    Turn P w K (.Tuple elts kk tpos) (IteT K a) [e, it] e (fun i h => (∃ old, IsEnum h e it ((i : Nat) : Int) old) ∧ h.IsTupleIter it a i ∧ e ≠ it) where
  mem := List.mem_cons_self
  obj := fun i h st b hb => by
    obtain ⟨⟨old, he⟩, ⟨o, ho, hc, hd⟩, _⟩ := st
    rcases List.mem_cons.mp hb with z | z
    · subst z; exact ⟨_, he, fun v q => nomatch q⟩
    · have z := List.mem_singleton.mp z
      subst z; exact ⟨o, ho, fun v q => by rw [hd] at q; cases q⟩
  keep := fun i h h' st k => by
    obtain ⟨⟨old, he⟩, hi, hne⟩ := st
    exact ⟨⟨old, k e (by simp) _ he⟩, hi.at fun o q => k it (by simp) o q, hne⟩
  item := by
    intro X hP hw hK hc i pins s σ H E I hf st hg
    subst hP hw hK
    obtain ⟨⟨old, he⟩, hit, hne⟩ := st
    obtain ⟨xs, x, hq, hx⟩ := hg
    obtain ⟨its, rv, p, hz⟩ := I.tuple hq
    have p' : s.heap.IsTuple a its.toArray := p
    obtain ⟨u, hu, ru⟩ := rv.get hx
    have hel : e < s.heap.objs.size := Heap.lt_size he
    have hil : it < s.heap.objs.size := by obtain ⟨_, q, _⟩ := hit; exact Heap.lt_size q
    have ha1 : a ≠ it := fun z => by
      subst z
      obtain ⟨o1, q1, c1, _⟩ := hit
      obtain ⟨o2, q2, c2, _⟩ := p'
      rw [q1] at q2; cases q2
      rw [c1] at c2
      exact absurd (Value.type.inj c2) (by decide)
    have ha2 : e ≠ a := fun z => by
      subst z
      obtain ⟨o2, q2, c2, _⟩ := p'
      have he' : s.heap.get? e = some _ := he
      rw [he'] at q2; cases q2
      exact absurd (Value.type.inj (show Value.type "enumerate" = Value.type "tuple" from c2)) (by decide)
    have hlt : i < its.toArray.size := by
      have := (List.getElem?_eq_some_iff.mp hu).1
      simpa using this
    refine wpAny_pyNext_enum_itemD (Draws.tuple (show X.A.in1.handled = none from I.ok.hd hc) it a ha1 its.toArray) he ⟨hit, p'⟩ hlt hne (by simp [hne, ha2]) fun y h' tk hy ho hst hT hsz hk => ?_
    have ey : y = u := by
      have hy : its.toArray[i]? = some y := hy
      rw [List.getElem?_toArray, hu] at hy
      exact (Option.some.inj hy).symm
    subst ey
    refine ⟨_, rfl, wpAny_letOwnedTupleGo_enum (s := { s with heap := h', toks := tk + 1 }) ho fun h'' he' sb => ?_⟩
    have hT2 : h''.get? s.heap.objs.size = some { cls := .type "tuple", data := .seq #[.int i tk, y] } := (sb.2 _ (Nat.ne_of_gt hel)).trans hT
    have new : ObjOk X.prog X.w (upd H s.heap.objs.size (.tup [.int (i : Nat), x])) h'' s.heap.objs.size (.tup [.int (i : Nat), x]) :=
      ⟨by show 2 ≤ sizeLine; decide, [.int i tk, y], .cons ⟨_, rfl⟩ (.cons ru .nil), ⟨_, hT2, rfl, _, rfl⟩⟩
    have J : Inv X pins σ (upd H s.heap.objs.size (.tup [.int (i : Nat), x])) { s with heap := h'', toks := tk + 1 } :=
      I.turnedNew (ch := [e, it]) (fun b ob hb q => (sb.2 b (fun z => hb (by simp [z]))).trans (hk b ob (fun z => hb (by simp [z])) (fun z => hb (by simp [z])) q)) hf (Nat.le_refl _) new
    refine ⟨.ref s.heap.objs.size, _, J, rfl, ⟨_, x, rfl, I.hok.fresh (Nat.le_refl _), rfl, fun ys hy => by rw [I.tuple_inj hy hq]; exact hx⟩, ⟨⟨y, ?_⟩, hst.1.at fun o q => (sb.2 it (Ne.symm hne)).trans q, hne⟩, fun b hb => ?_⟩
    · rw [show ((i + 1 : Nat) : Int) = (i : Int) + 1 from rfl]; exact he'
    · have hb' : b < s.heap.objs.size := by
        rcases List.mem_cons.mp hb with z | z
        · subst z; exact hel
        · have z := List.mem_singleton.mp z
          subst z; exact hil
      rw [upd_ne (Nat.ne_of_lt hb')]
      exact (hf b hb).1
  done := by
    intro X hP hw hK hc i pins s σ H E I hf st hg
    subst hP hw hK
    obtain ⟨⟨old, he⟩, hit, hne⟩ := st
    obtain ⟨xs, hq, hx⟩ := hg
    obtain ⟨its, rv, p, hz⟩ := I.tuple hq
    have p' : s.heap.IsTuple a its.toArray := p
    obtain ⟨f0, f1, f2, f3, f4, f5⟩ := hf it (by simp)
    have ha1 : a ≠ it := fun z => by
      subst z
      obtain ⟨o1, q1, c1, _⟩ := hit
      obtain ⟨o2, q2, c2, _⟩ := p'
      rw [q1] at q2; cases q2
      rw [c1] at c2
      exact absurd (Value.type.inj c2) (by decide)
    have hn : i = its.toArray.size := by
      rw [← hx, rv.length]; simp
    subst hn
    exact wpAny_pyNext_enum_endD (Draws.tuple (show X.A.in1.handled = none from I.ok.hd hc) it a ha1 its.toArray) he ⟨hit, p'⟩ fun h' eb => ⟨rfl, I.turned (t' := s.toks) (fun b o hb q => eb b o hb q) f0 f1 f3 f4 f5⟩
  self := fun A i s Q E st h => by
    obtain ⟨⟨_, he⟩, _⟩ := st
    exact wpAny_pyIter_enum he h
def iEnumA (K : W.Frag) (ta : TA) : TI := fun σ H R => ta σ H fun vs H1 => ∃ a xs, vs = [.ref a] ∧ ((SqL K H1 a xs ∧ R (Ite K a) H1) ∨ (SqT K H1 a xs ∧ R (IteT K a) H1))
theorem pi_enumA {X : Cx} {e : Expr} {ta : TA} {p pos tpos : Pos} {elts : List Expr} {kk : Nat} (hg : Gl X "enumerate") (hm : X.mg "enumerate" = none) (ha : PA X [e] ta) (hs : starEach [e] X.env = [(false, eval e X.env)]) :
    PI X (.Tuple elts kk tpos) (.Call (.Name "enumerate" p) [e] [] pos) (iEnumA X.K ta) := by
  refine ⟨fun pins s σ H R I h => ?_⟩
  refine Call_ (ld_blt I hg hm boot_enumerate (PyProof.Rows.callWith_type1 (thn (ha.run pos pins s σ H _ I h) fun us s1 ⟨vs, H1, I1, r1, q1⟩ => ?_) hs rfl))
  obtain ⟨a, xs, ex, hq⟩ := q1
  subst ex
  have eu := Vals.ref1 r1
  subst eu
  have fp : ∀ b ∈ [s1.heap.objs.size + 1, s1.heap.objs.size], FpOk X pins H1 b := fun b hb => by
    have hle : s1.heap.objs.size ≤ b := by
      rcases List.mem_cons.mp hb with z | z
      · subst z; exact Nat.le_add_right _ _
      · have z := List.mem_singleton.mp z
        subst z; exact Nat.le_refl _
    exact I1.fpOk hle (I1.hok.fresh hle)
  rcases hq with ⟨hq, q⟩ | ⟨hq, q⟩
  · obtain ⟨its, rv, p', hz⟩ := I1.list hq
    refine enumB_call (begins_list a its.toArray) p'.isList fun h' he hit hk => wpAny_pyIter_enum he ?_
    have J : Inv X pins σ H1 { s1 with heap := h' } := I1.kept (t' := s1.toks) hk
    exact ⟨s1.heap.objs.size + 1, [s1.heap.objs.size + 1, s1.heap.objs.size], _, _, H1, rfl, J, turn_enum a (s1.heap.objs.size + 1) s1.heap.objs.size, ⟨⟨.none, he⟩, ⟨_, hit, rfl, rfl⟩, Nat.succ_ne_self _⟩, fp, q⟩
  · obtain ⟨its, rv, p', hz⟩ := I1.tuple hq
    have p2 : s1.heap.IsTuple a its.toArray := p'
    refine enumB_call (begins_tuple a its.toArray) p2 fun h' he hit hk => wpAny_pyIter_enum he ?_
    have J : Inv X pins σ H1 { s1 with heap := h' } := I1.kept (t' := s1.toks) hk
    exact ⟨s1.heap.objs.size + 1, [s1.heap.objs.size + 1, s1.heap.objs.size], _, _, H1, rfl, J, turn_enumT a (s1.heap.objs.size + 1) s1.heap.objs.size, ⟨⟨.none, he⟩, ⟨_, hit, rfl, rfl⟩, Nat.succ_ne_self _⟩, fp, q⟩
end MP

set_option Elab.async false
set_option linter.all false
set_option maxRecDepth 100000
set_option maxHeartbeats 1000000
/-! Built-in calls and methods on trees. -/
namespace MP
open PySem PySem.Spec PyProof.Rows L2

/-- where a body stands -/
structure At (X : Cx) (k : Nat) : Prop where
  calm : X.calm = true
  guards : X.A.guards = some []
  room : Room k X.A
theorem At.u64 {X : Cx} {k : Nat} (a : At X k) : X.A.units + 65 < cLine := by have := a.room.un; omega
section
variable {X : Cx} {k : Nat}
theorem mapAt {α β : Type} {xs : List α} {i : Int} : atI xs i = (ixN xs.length i).bind fun j => xs[j]? := rfl
/-- repr of data -/
theorem call_repr (a : At X k) : CallR X (.builtin "repr") (fun xs H Q => ∃ x d, xs = [x] ∧ Dp X.K H x d ∧ PyData.showable d = true ∧ PyData.hasDict d = false ∧ PyData.depth d ≤ 60 ∧ (PyData.shown d).length ≤ sizeLine ∧ Q (.str (PyData.shown d)) H) := by
  intro pins s σ H xs us Q I r h
  obtain ⟨x, d, rfl, hd, hs, hn, hp, hz, q⟩ := h
  obtain ⟨u, rfl, rx⟩ := vals1 r
  obtain ⟨as, rr⟩ := Dp.reads I d x u hd rx
  have hu := a.u64
  cases rr with
  | none => exact PySem.P.repr_of_none ⟨.str (PyData.shown .none), H, I.tok _, ⟨_, rfl⟩, q⟩
  | bool b => exact PySem.P.repr_of_bool ⟨.str (PyData.shown (.bool b)), H, I.tok _, ⟨_, rfl⟩, q⟩
  | int i t => exact PySem.P.repr_of_int (by simpa [PyData.showable] using hs) ⟨.str (PyData.shown (.int i)), H, I.tok _, ⟨_, rfl⟩, q⟩
  | str x t => exact PySem.P.repr_of_str ⟨.str (PyData.shown (.str x)), H, I.tok _, ⟨_, rfl⟩, q⟩ hz
  | list h1 h2 h3 h4 =>
    exact repr_of_reads' (.list h1 h2 h3 h4) hs (PyData.noDict_hsm hn) a.guards (by omega) (fun _ _ e => e) (fun h' u tk hk => ⟨.str _, H, I.kept (t' := tk) hk, ⟨_, rfl⟩, q⟩) hz
  | tuple h1 h2 h3 h4 =>
    exact repr_of_reads' (.tuple h1 h2 h3 h4) hs (PyData.noDict_hsm hn) a.guards (by omega) (fun _ _ e => e) (fun h' u tk hk => ⟨.str _, H, I.kept (t' := tk) hk, ⟨_, rfl⟩, q⟩) hz
  | dict _ _ _ _ _ => simp [PyData.hasDict] at hn
mutual
theorem py_noDict : ∀ (d : D) (x : PyData), py d = some x → PyData.hasDict x = false
  | .non, x, e => by have e := Option.some.inj e; subst e; rfl
  | .bl _, x, e => by have e := Option.some.inj e; subst e; rfl
  | .int _, x, e => by have e := Option.some.inj e; subst e; rfl
  | .str _, x, e => by have e := Option.some.inj e; subst e; rfl
  | .tup xs, x, e => by
    unfold py at e
    cases q : pyAll xs with
    | none => rw [q] at e; cases e
    | some ys =>
      rw [q] at e; have e := Option.some.inj e; subst e
      simpa only [PyData.hasDict] using pyAll_noDict xs ys q
  | .lst xs, x, e => by
    unfold py at e
    cases q : pyAll xs with
    | none => rw [q] at e; cases e
    | some ys =>
      rw [q] at e; have e := Option.some.inj e; subst e
      simpa only [PyData.hasDict] using pyAll_noDict xs ys q
  | .fl xs, x, e => by
    unfold py at e
    cases q : pyAll xs with
    | none => rw [q] at e; cases e
    | some ys =>
      rw [q] at e; have e := Option.some.inj e; subst e
      simpa only [PyData.hasDict] using pyAll_noDict xs ys q
  | .bot, x, e => by unfold py at e; cases e
  | .dct _ _, x, e => by unfold py at e; cases e
  | .ins _ _ _, x, e => by unfold py at e; cases e
theorem pyAll_noDict : ∀ (ds : List D) (xs : List PyData), pyAll ds = some xs → PyData.hasDictAll xs = false
  | [], xs, e => by have e := Option.some.inj e; subst e; rfl
  | d :: ds, xs, e => by
    unfold pyAll at e
    cases q : py d with
    | none => rw [q] at e; cases e
    | some y =>
      rw [q] at e
      cases q2 : pyAll ds with
      | none => rw [q2] at e; cases e
      | some ys =>
        rw [q2] at e; have e := Option.some.inj e; subst e
        simp [PyData.hasDictAll, py_noDict d y q, pyAll_noDict ds ys q2]
end

def Bi.val : Bi → Value
  | .int => .type "int" | .len => .builtin "len" | .max2 => .builtin "max" | .min2 => .builtin "min" | .max1 => .builtin "max" | .min1 => .builtin "min" | .abs => .builtin "abs" | .list => .type "list" | .tuple => .type "tuple" | .repr => .builtin "repr" | .all => .builtin "all" | .any => .builtin "any" | .sorted => .builtin "sorted" | .dict => .type "dict" | .str => .type "str"
def rBi (K : W.Frag) (b : Bi) : List V → Hp → VK → Prop := fun xs H Q => ∃ (Z : Addr → Prop) (ds : List D) (c : Cnt) (k : KD), Own K Z H xs ds c ∧ biS b ds k ∧ Fin K Z H k Q
theorem one_of {K : W.Frag} {Z : Addr → Prop} {H : Hp} {xs : List V} {d : D} {c : Cnt} (h : Own K Z H xs [d] c) : ∃ x, xs = [x] := by
  have := h.len
  match xs, this with
  | [x], _ => exact ⟨x, rfl⟩
theorem two_of {K : W.Frag} {Z : Addr → Prop} {H : Hp} {xs : List V} {d e : D} {c : Cnt} (h : Own K Z H xs [d, e] c) : ∃ x y, xs = [x, y] := by
  have := h.len
  match xs, this with
  | [x, y], _ => exact ⟨x, y, rfl⟩
theorem bls_of {K : W.Frag} {Z : Addr → Prop} {H : Hp} : ∀ {ds : List D} {vs : List V} {c : Cnt} {bs : List Bool}, Own K Z H vs ds c → bls? ds = some bs → vs = bs.map V.bl
  | [], vs, c, bs, h, e => by
    have e := Option.some.inj e
    subst e
    exact List.eq_nil_of_length_eq_zero h.len
  | d :: ds, vs, c, bs, h, e => by
    cases d <;> first | (cases e; done) | skip
    rename_i b
    unfold bls? at e
    cases q : bls? ds with
    | none => rw [q] at e; cases e
    | some l =>
      rw [q] at e
      have e := Option.some.inj e
      subst e
      cases h with
      | bl h =>
        rw [bls_of h q]; rfl
theorem ints_back {K : W.Frag} {Z : Addr → Prop} {H : Hp} : ∀ {ns : List Int}, Own K Z H (ns.map V.int) (ns.map D.int) fun _ => 0
  | [] => .nil
  | _ :: _ => .int ints_back
theorem pp_of {K : W.Frag} {Z : Addr → Prop} {H : Hp} : ∀ {ps : List IP} {vs : List V} {c : Cnt}, Own K Z H vs (ps.map fun p => D.tup [.int p.1, .int p.2]) c → PP K H vs ps
  | [], vs, c, h => by
    have := h.len
    have : vs = [] := List.eq_nil_of_length_eq_zero (by simpa using this)
    subst this; exact .nil
  | p :: ps, vs, c, h => by
    cases h with
    | tup q o t =>
      have e := ints_of (ns := [p.1, p.2]) o rfl
      subst e
      exact .cons q (pp_of t)
theorem pp_own {K : W.Frag} {Z : Addr → Prop} {H : Hp} {ys : List V} {qs : List IP} (h : PP K H ys qs) : Own K Z H ys (qs.map fun p => D.tup [.int p.1, .int p.2]) fun _ => 0 := by
  induction h with
  | nil => exact .nil
  | cons q t ih => exact .tup q (.int (.int .nil)) ih
end
end MP

set_option Elab.async false
set_option linter.all false
set_option maxRecDepth 100000
set_option maxHeartbeats 1000000
/-! sorted(set(xs)): of ints, of tuples of ints. -/
namespace MP
open PySem PySem.Spec PyProof.Rows L2

theorem lex_code {B : Int} : ∀ {p q : List Int}, p.length = q.length → TS.Bd B p → TS.Bd B q → p ≠ q → TS.code B p ≤ TS.code B q → HT.lexLt p q = true
  | [], [], _, _, _, hn, _ => absurd rfl hn
  | [], _ :: _, hl, _, _, _, _ => by simp at hl
  | _ :: _, [], hl, _, _, _, _ => by simp at hl
  | x :: p, y :: q, hl, hp, hq, hn, h => by
    have hl' : p.length = q.length := by simpa using hl
    clear hl
    rw [HT.lexLt_cons]
    by_cases e : x = y
    · subst e
      rw [if_pos rfl]
      refine lex_code hl' hp.tail hq.tail (fun z => hn (by rw [z])) ?_
      have h : x * B ^ p.length + TS.code B p ≤ x * B ^ q.length + TS.code B q := h
      rw [hl'] at h
      omega
    · rw [if_neg e]
      refine decide_eq_true ?_
      rcases Int.lt_trichotomy x y with c | c | c
      · exact c
      · exact absurd c e
      · have := TS.code_lt hl'.symm hq.tail hp.tail c
        omega
theorem ints_mk : ∀ q : List Int, ints? (q.map D.int) = some q
  | [] => rfl
  | i :: q => by show (ints? (q.map D.int)).map (i :: ·) = _; rw [ints_mk q]; rfl
/-- the tuples of a list, by their addresses -/
theorem tups_own {K : W.Frag} {Z : Addr → Prop} {H : Hp} : ∀ {qs : List (List Int)} {us : List V} {c : Cnt}, Own K Z H us (qs.map tupD) c → ∃ ks : List (Addr × List Int), us = ks.map (fun p => V.ref p.1) ∧ ks.map (·.2) = qs ∧ ∀ p ∈ ks, SqP K H p.1 (p.2.map V.int)
  | [], us, c, h => by
    have h1 := h.len
    have : us = [] := List.eq_nil_of_length_eq_zero (by simpa using h1)
    subst this
    exact ⟨[], rfl, rfl, fun p hp => by simp at hp⟩
  | q :: qs, us, c, h => by
    have h : Own K Z H us (tupD q :: qs.map tupD) c := h
    cases us with
    | nil => have := h.len; simp at this
    | cons v us =>
      obtain ⟨c1, c2, h1, h2, _⟩ := h.uncons
      obtain ⟨ks, rfl, e2, h3⟩ := tups_own h2
      unfold tupD at h1
      cases h1 with
      | tup hq o _ =>
        have e := ints_of o (ints_mk q)
        subst e
        refine ⟨(_, q) :: ks, rfl, by rw [List.map_cons, e2], fun r hr => ?_⟩
        rcases List.mem_cons.mp hr with z | z
        · subst z; exact hq
        · exact h3 r z
theorem tups_back {K : W.Frag} {Z : Addr → Prop} {H : Hp} : ∀ {ks : List (Addr × List Int)}, (∀ p ∈ ks, SqP K H p.1 (p.2.map V.int)) → Own K Z H (ks.map fun p => V.ref p.1) ((ks.map (·.2)).map tupD) fun _ => 0
  | [], _ => .nil
  | p :: ks, h => .tup (h p List.mem_cons_self) ints_back (tups_back fun q hq => h q (List.mem_cons_of_mem _ hq))
/-- what a set promises to sorted -/
def SetFor (X : Cx) (H H' : Hp) (y : V) (k : KD) : Prop := ∃ a, y = V.ref a ∧ H a = none ∧
  ((∃ S n, H' = upd H a (SetO X.w a S n) ∧ n < 64 ∧ ∀ ls : List Int, ls.Pairwise (· < ·) → (∀ i, i ∈ ls ↔ S i = true) → k (.lst (ls.map .int))) ∨
    ∃ (L : List (Addr × List Int)) (m : Nat) (B : Int), H' = upd H a (SetTO X.prog X.w a L) ∧ (∀ p ∈ L, SqP X.K H' p.1 (p.2.map V.int)) ∧ 1 ≤ m ∧ (∀ p ∈ L, p.2.length = m ∧ TS.Bd B p.2) ∧
      ∀ ls : List (List Int), ls.Pairwise (fun p q => HT.lexLt p q = true) → (∀ q, q ∈ ls ↔ q ∈ L.map (·.2)) → k (.lst (ls.map tupD)))
def rSetS (X : Cx) : List V → Hp → VK → Prop := fun xs H Q => ∃ (Z : Addr → Prop) (d : D) (c : Cnt) (k : KD), Own X.K Z H xs [d] c ∧ sstS d k ∧ ∀ y H', SetFor X H H' y k → Q y H'
def rSortedS2 (X : Cx) : List V → Hp → VK → Prop := fun xs H' Q => ∃ (H : Hp) (y : V) (k : KD), xs = [y] ∧ SetFor X H H' y k ∧
  ∀ us es p, k (.lst es) → (∀ Z, Own X.K Z H' us es fun _ => 0) → H' p = none → Q (.ref p) (upd H' p (.lst us))
section
variable {P : Program} {w : World} {A : Around} {E : Value → Shared → Prop} {s : Shared}
/-- set(xs), xs a list of ints: the layer's proof for tuples, turned to lists -/
theorem call_set_lstI {l : Addr} {items : Array Value} (ns : List Int) {Q : Value → Shared → Prop} (hh : A.handled = none) (hl : s.heap.IsList l items) (hit : IntsAre items.toList ns) (hb : ns.length + 1 < scanBound)
    (h : ∀ (h' : Heap) (tk c : Nat), SetR w h' s.heap.objs.size (fun j => decide (j ∈ ns)) c → c ≤ ns.length → (∀ b o, s.heap.get? b = some o → h'.get? b = some o) → Q (.ref s.heap.objs.size) { s with heap := h', toks := tk }) :
    wpAny (model P w) A (call (.type "set") [.ref l]) Q E s := by
  have hisz : items.size = ns.length := by
    have q := IntsAre.length hit
    rw [Array.length_toList] at q
    exact q
  obtain ⟨c, tl, hmro⟩ := F.called_set.mro
  have hmade := F.called_set.made
  have hsub := F.called_set.sub
  refine wpAny_call (codeAny_of_tree ?_)
  show wpAny _ _ (callAny (.type "set") _) _ _ _
  refine wpAny_pure ⟨Code.quiet_builtin _ (by decide +kernel), codeAny_builtin F.entry_type_call ?_⟩
  rw [Around.under_plain (weight_type_call_type "set" [.ref l] []) rfl]
  have h1 := F.called_set.notType
  have h2 := F.called_set.canCreate
  have hct := F.typeCall_set_1 (.ref l)
  repeat (any_goals (first | assumption | wp_step))

  refine codeAny_mono (code_set_led1 (.ref l) (E := E) (Q₁ := fun obj s₁ => obj = .ref s.heap.objs.size ∧ s₁ = { s with heap := s.heap.push { cls := .type "set", dict := none, data := .set #[] 0 (.fresh 0 0 (!w.params.followText "set-order")) } }) ⟨rfl, rfl⟩) fun r s₁ hr => ?_
  cases r with
  | error e => exact hr
  | ok fl =>
    cases fl with
    | ret obj =>
      obtain ⟨rfl, rfl⟩ := hr
      have hS : (s.heap.push { cls := .type "set", dict := none, data := .set #[] 0 (.fresh 0 0 (!w.params.followText "set-order")) }).get? s.heap.objs.size = some { cls := .type "set", dict := none, data := .set #[] 0 (.fresh 0 0 (!w.params.followText "set-order")) } := Heap.get?_push_size _ rfl
      have hT : Shared.TypeIs { s with heap := s.heap.push { cls := .type "set", dict := none, data := .set #[] 0 (.fresh 0 0 (!w.params.followText "set-order")) } } (.ref s.heap.objs.size) "set" := ⟨_, hS, rfl⟩
      have hli := F.called_set.init.lookup
      have hbi := F.called_set.init.bind (.ref s.heap.objs.size)
      repeat (any_goals (first | assumption | wp_step))

      refine codeAny_mono (codeAny_call_builtin (R := wants (fun r s₂ => r = .none ∧ ∃ h' tk c, s₂ = { s with heap := h', toks := tk } ∧ SetR w h' s.heap.objs.size (fun j => decide (j ∈ ns)) c ∧ c ≤ ns.length ∧
          (∀ b o, s.heap.get? b = some o → h'.get? b = some o)) E) F.called_set.init.plain F.entry_set_init (check_set_init_1 hT ?_)) fun r₂ s₂ hr₂ => ?_
      · obtain ⟨ol, hol, hcl, nl, hdl⟩ := hl
        obtain ⟨ocls, odict, odata, oslots⟩ := ol
        simp only at hcl hdl
        subst hcl; subst hdl
        have hol' : (s.heap.push { cls := .type "set", dict := none, data := .set #[] 0 (.fresh 0 0 (!w.params.followText "set-order")) }).get? l = some { cls := .type "list", dict := odict, data := .seq items nl, slots := oslots } := Heap.get?_push_of_some _ hol
        have hsls := F.sub_list_set
        have hslf := F.sub_list_frozenset
        have hne : (Value.type "list" == Value.type "dict") = false := by decide
        have hl1 : (s.heap.push { cls := .type "set", dict := none, data := .set #[] 0 (.fresh 0 0 (!w.params.followText "set-order")) }).IsList l items := ⟨_, hol', rfl, nl, rfl⟩
        unfold Builtin.«set.__init__» noKeywords Builtin.Frozenset.updateFrom
        generalize hPI : pyIter = PI
        wp_walk
        subst hPI

        refine wpAny_pyIter_list hl1 ?_
        refine wpAny_bind (wpAny_runValue ?_)
        have hlS : l < s.heap.objs.size := Heap.lt_size hol
        have hh3 : A.in1.in1.in1.handled = none := by simp [hh]
        have hz1 : (s.heap.push { cls := .type "set", dict := none, data := .set #[] 0 (.fresh 0 0 (!w.params.followText "set-order")) }).objs.size = s.heap.objs.size + 1 := Heap.size_push ..
        have hneI : l ≠ (s.heap.push { cls := .type "set", dict := none, data := .set #[] 0 (.fresh 0 0 (!w.params.followText "set-order")) }).objs.size := by
          rw [Heap.size_push]; exact Nat.ne_of_lt (Nat.lt_succ_of_lt hlS)
        have hSf : s.heap.objs.size ∉ [(s.heap.push { cls := .type "set", dict := none, data := .set #[] 0 (.fresh 0 0 (!w.params.followText "set-order")) }).objs.size, l] := by
          rw [Heap.size_push]; simp only [List.mem_cons, List.mem_singleton, List.not_mem_nil, or_false, not_or]
          exact ⟨Nat.ne_of_lt (Nat.lt_succ_self _), Nat.ne_of_gt hlS⟩
        have hval : ∀ (i : Nat) (v : Value), items[i]? = some v → ∃ k t, ns[i]? = some k ∧ v = .int k t := fun i v hv => by
          have hi : i < ns.length := by rw [← hisz]; exact (Array.getElem?_eq_some_iff.mp hv).1
          obtain ⟨t, e⟩ := PyProof.Rows.IntsAre.int_at hit i v (by rw [Array.getElem?_toList]; exact hv)
          refine ⟨ns[i], t, List.getElem?_eq_getElem hi, ?_⟩
          rw [e, List.getD_eq_getElem?_getD, List.getElem?_eq_getElem hi] <;> rfl
        refine set_update_ints ((Walks.list hh3 _ l hneI items).toS) s.heap.objs.size
          hSf ns hisz hb hval (items.size - 0) 0 _ (by omega) (Nat.zero_le _)
          ⟨⟨_, Heap.get?_push_size _ rfl, rfl, rfl⟩, (hl1.push _)⟩ ?hS0 ?hR
        case hS0 =>
          have hget : ((s.heap.push { cls := .type "set", dict := none, data := .set #[] 0 (.fresh 0 0 (!w.params.followText "set-order")) }).push { cls := .type "list_iterator", data := .fields #[.ref l, .int 0 0] }).get? s.heap.objs.size
              = some { cls := .type "set", dict := none, data := .set #[] 0 (.fresh 0 0 (!w.params.followText "set-order")) } := Heap.get?_push_of_some _ hS
          exact ⟨0, Nat.le_refl 0, setR_new_at hget⟩
        case hR =>
          intro s' c' hm hc' hS'
          obtain ⟨h', g2, d', tk', os'⟩ := s'
          have eg : g2 = s.gens := hm.gens
          have ed : d' = s.drawn := hm.drawn
          have eo : os' = s.os := hm.os
          subst eg; subst ed; subst eo
          show wpAny _ _ _ _ _ _
          refine wpAny_pure ?_
          show wpAny _ _ (ret Value.none) _ _ _
          rw [hisz] at hc'
          refine wpAny_pure ⟨rfl, h', tk', c', rfl, hS', hc', fun b o e => ?_⟩
          have hb0 : b < s.heap.objs.size := Heap.lt_size e
          have hb1 : b ≠ s.heap.objs.size := Nat.ne_of_lt hb0
          have hb2 : b ≠ (s.heap.push { cls := .type "set", dict := none, data := .set #[] 0 (.fresh 0 0 (!w.params.followText "set-order")) }).objs.size := by
            rw [Heap.size_push]; exact Nat.ne_of_lt (Nat.lt_succ_of_lt hb0)
          exact hm.heap b o (by simp only [List.mem_cons, List.mem_singleton, List.not_mem_nil, or_false, not_or]; exact ⟨hb1, hb2⟩) (Heap.get?_push_of_some _ (Heap.get?_push_of_some _ e))

      · cases r₂ with
        | error e => exact hr₂
        | ok fl₂ =>
          cases fl₂ with
          | ret r =>
            obtain ⟨rfl, h', tk, c', rfl, hS', hc', hk'⟩ := hr₂
            repeat (any_goals (first | assumption | wp_step))
            exact h _ _ _ hS' hc' hk'
          | _ => exact hr₂.elim
    | _ => exact hr.elim
end
section
variable {X : Cx} {k : Nat}
theorem cr_setTI (hc : X.calm = true) : CallR X (.type "set") (fun xs H Q => ∃ (l : Addr) (ns : List Int), xs = [V.ref l] ∧ SqT X.K H l (ns.map V.int) ∧ ns.length < 64 ∧ ∀ a n, H a = none → n ≤ ns.length → Q (.ref a) (upd H a (SetO X.w a (fun j => decide (j ∈ ns)) n))) := by
  rintro pins s σ H xs us Q I r ⟨l, ns, rfl, hq, hl, q⟩
  rw [Vals.ref1 r]
  obtain ⟨its, rv, pl, hz⟩ := I.tuple hq
  have hn : H s.heap.objs.size = none := I.hok.fresh (Nat.le_refl _)
  exact call_set_tupI (P := X.prog) (w := X.w) ns (I.ok.hd hc) pl (by simpa using rv.ints) (by unfold scanBound; omega) fun h' tk c R hcn kk =>
    ⟨.ref s.heap.objs.size, _, I.laid (t' := tk) kk (Nat.le_refl _) (setO_new R), rfl, q _ c hn hcn⟩
theorem cr_setLI (hc : X.calm = true) : CallR X (.type "set") (fun xs H Q => ∃ (l : Addr) (ns : List Int), xs = [V.ref l] ∧ SqL X.K H l (ns.map V.int) ∧ ns.length < 64 ∧ ∀ a n, H a = none → n ≤ ns.length → Q (.ref a) (upd H a (SetO X.w a (fun j => decide (j ∈ ns)) n))) := by
  rintro pins s σ H xs us Q I r ⟨l, ns, rfl, hq, hl, q⟩
  rw [Vals.ref1 r]
  obtain ⟨its, rv, pl, hz⟩ := I.list hq
  have hn : H s.heap.objs.size = none := I.hok.fresh (Nat.le_refl _)
  exact call_set_lstI (P := X.prog) (w := X.w) ns (I.ok.hd hc) pl.isList (by simpa using rv.ints) (by unfold scanBound; omega) fun h' tk c R hcn kk =>
    ⟨.ref s.heap.objs.size, _, I.laid (t' := tk) kk (Nat.le_refl _) (setO_new R), rfl, q _ c hn hcn⟩
theorem call_setS (a : At X k) : CallR X (.type "set") (rSetS X) := by
  rintro pins s σ H xs us Q I r ⟨Z, d, c, kk, o, hs, hk⟩
  rcases hs with ⟨es, ns, ed, e1, hl, h⟩ | ⟨m, B, qs, hd, hl, hm, hB, h⟩
  · obtain ⟨x, rfl⟩ := one_of o
    cases o <;> first | (exact absurd (show none = some es from ed) (by simp)) | skip
    · rename_i q e t
      have ed := Option.some.inj ed
      subst ed
      refine cr_setTI a.calm pins s σ H _ us Q I r ⟨_, ns, rfl, by rw [← ints_of e e1]; exact q.seq, hl, fun b n hb hn => hk _ _ ⟨b, rfl, hb, .inl ⟨_, n, rfl, by omega, fun ls p1 p2 => h ls p1 fun i => ?_⟩⟩⟩
      rw [p2 i]; simp
    · rename_i q e t
      have ed := Option.some.inj ed
      subst ed
      refine cr_setLI a.calm pins s σ H _ us Q I r ⟨_, ns, rfl, .of (by rw [← ints_of e e1]; exact q), hl, fun b n hb hn => hk _ _ ⟨b, rfl, hb, .inl ⟨_, n, rfl, by omega, fun ls p1 p2 => h ls p1 fun i => ?_⟩⟩⟩
      rw [p2 i]; simp
  · have go : ∀ (l : Addr) (vs : List V) (c' : Cnt), xs = [V.ref l] → SqL X.K H l vs → Own X.K Z H vs (qs.map tupD) c' → rSetOfT X.K X.prog X.w xs H Q := by
      rintro l vs c' rfl hq ho
      obtain ⟨ks, rfl, e2, h3⟩ := tups_own ho
      have hlen : ks.length = qs.length := by rw [← e2, List.length_map]
      refine ⟨l, ks, rfl, hq, fun p hp => (h3 p hp).seq, by omega, fun b L hb h1 h2 => hk _ _ ⟨b, rfl, hb, .inr ⟨L, m, B, rfl, fun p hp => ?_, hm, fun p hp => ?_, fun ls p1 p2 => h ls p1 fun q => ?_⟩⟩⟩
      · exact SqP.still (Z := Z) (h3 p (h1 p hp)) fun a' o' e' s' => by
          rw [upd_ne (ne_of_none e' hb)]; exact e'
      · have := hB p.2 (by rw [← e2]; exact List.mem_map_of_mem (h1 p hp))
        exact ⟨this.1, this.2⟩
      · rw [p2 q, ← e2]
        constructor
        · intro hq
          obtain ⟨p, hp, rfl⟩ := List.mem_map.mp hq
          exact List.mem_map_of_mem (h1 p hp)
        · intro hq
          obtain ⟨p, hp, rfl⟩ := List.mem_map.mp hq
          exact h2 p hp
    refine cr_setOfT a.calm (by have := a.u64; omega) pins s σ H _ us Q I r ?_
    obtain ⟨x, rfl⟩ := one_of o
    rcases hd with rfl | rfl
    · cases o with
      | lst q e t => exact go _ _ _ rfl (.of q) e
    · cases o with
      | fl q e t => exact go _ _ _ rfl q.seq e
theorem call_sortedS (a : At X k) : CallR X (.builtin "sorted") (rSortedS2 X) := by
  rintro pins s σ H' xs us Q I r ⟨H, y, kk, rfl, ⟨a', rfl, ha, ht⟩, hq⟩
  rcases ht with ⟨S, n, rfl, hn, h⟩ | ⟨L, m, B, e0, hL, hm, hB, h⟩
  · exact cr_sortedSet a.calm pins s σ _ _ us Q I r ⟨a', S, n, rfl, upd_same, hn, fun ns p h1 h2 h3 hp => hq _ _ p (h ns h1 h2) (fun Z => ints_back) hp⟩
  · have e1 : H' a' = some (SetTO X.prog X.w a' L) := by rw [e0]; exact upd_same
    refine cr_sortedT a.calm pins s σ _ _ us Q I r ⟨a', L, m, B, rfl, e1, fun p hp => (hL p hp).seq, hm, hB, fun L' p h1 h2 h3 h4 hp => hq _ ((L'.map (·.2)).map tupD) p (h _ ?_ fun q => ?_) (fun Z => tups_back fun q hq => hL q (h1.mem_iff.mp hq)) hp⟩
    · rw [List.pairwise_map]
      rw [List.nodup_iff_pairwise_ne, List.pairwise_map] at h2
      refine List.Pairwise.imp_of_mem (fun {p q} hp hq hpq => ?_) (h2.and h4)
      obtain ⟨l1, b1⟩ := hB p (h1.mem_iff.mp hp)
      obtain ⟨l2, b2⟩ := hB q (h1.mem_iff.mp hq)
      exact lex_code (l1.trans l2.symm) b1 b2 hpq.1 hpq.2
    · exact (h1.map (·.2)).mem_iff
end
end MP

set_option Elab.async false
set_option linter.all false
set_option maxRecDepth 100000
set_option maxHeartbeats 1000000
/-! min and max of one list or tuple: of ints, of tuples of ints. -/
namespace MP
open PySem PySem.Spec PyProof.Rows L2

theorem lexLt_irr : ∀ p : List Int, HT.lexLt p p = false
  | [] => rfl
  | x :: p => by rw [HT.lexLt_cons, if_pos rfl]; exact lexLt_irr p
theorem lexLt_trans : ∀ {p q r : List Int}, HT.lexLt p q = true → HT.lexLt q r = true → HT.lexLt p r = true
  | [], [], _, h, _ => by cases h
  | [], _ :: _, [], _, h => by cases h
  | [], _ :: _, _ :: _, _, _ => rfl
  | _ :: _, [], _, h, _ => by cases h
  | _ :: _, _ :: _, [], _, h => by cases h
  | x :: p, y :: q, z :: r, h1, h2 => by
    rw [HT.lexLt_cons] at h1 h2 ⊢
    by_cases e1 : x = y
    · subst e1
      rw [if_pos rfl] at h1
      by_cases e2 : x = z
      · subst e2
        rw [if_pos rfl] at h2 ⊢
        exact lexLt_trans h1 h2
      · rw [if_neg e2] at h2 ⊢
        exact h2
    · rw [if_neg e1] at h1
      have h1 := of_decide_eq_true h1
      by_cases e2 : y = z
      · subst e2
        rw [if_neg e1]
        exact decide_eq_true h1
      · rw [if_neg e2] at h2
        have h2 := of_decide_eq_true h2
        rw [if_neg (by omega)]
        exact decide_eq_true (by omega)
theorem lexLt_tri : ∀ {p q : List Int}, HT.lexLt p q = false → HT.lexLt q p = false → p = q
  | [], [], _, _ => rfl
  | [], _ :: _, h, _ => by cases h
  | _ :: _, [], _, h => by cases h
  | x :: p, y :: q, h1, h2 => by
    rw [HT.lexLt_cons] at h1 h2
    by_cases e : x = y
    · subst e
      rw [if_pos rfl] at h1 h2
      rw [lexLt_tri h1 h2]
    · rw [if_neg e] at h1
      rw [if_neg fun z => e z.symm] at h2
      have h1 := of_decide_eq_false h1
      have h2 := of_decide_eq_false h2
      omega
theorem listLt_lex : ∀ p q : List Int, PySem.W.listLt p q = HT.lexLt p q
  | [], [] => rfl
  | [], _ :: _ => rfl
  | _ :: _, [] => rfl
  | x :: p, y :: q => by
    rw [HT.lexLt_cons]
    show (if x = y then PySem.W.listLt p q else decide (x < y)) = _
    rw [listLt_lex p q]
/-- what a fold of the lesser ones gives -/
theorem fold_least {α : Type} (lt : α → α → Bool) (irr : ∀ a, lt a a = false) (tr : ∀ a b c, lt a b = true → lt b c = true → lt a c = true) (tri : ∀ a b, lt a b = false → lt b a = false → a = b) :
    ∀ (xs : List α) (x : α), (xs.foldl (fun a y => if lt y a = true then y else a) x) ∈ x :: xs ∧ ∀ y ∈ x :: xs, lt y (xs.foldl (fun a y => if lt y a = true then y else a) x) = false
  | [], x => ⟨List.mem_cons_self, fun y hy => by
    have : y = x := by simpa using hy
    subst this; exact irr y⟩
  | y :: xs, x => by
    rw [List.foldl_cons]
    obtain ⟨h1, h2⟩ := fold_least lt irr tr tri xs (if lt y x = true then y else x)
    generalize List.foldl (fun a y => if lt y a = true then y else a) (if lt y x = true then y else x) xs = m at h1 h2
    cases e : lt y x with
    | true =>
      rw [e] at h1 h2
      simp only [if_true] at h1 h2
      refine ⟨List.mem_cons_of_mem _ h1, fun z hz => ?_⟩
      rcases List.mem_cons.mp hz with rfl | hz
      · have hy := h2 y List.mem_cons_self
        cases e2 : lt z m with
        | false => rfl
        | true => rw [tr y z m e e2] at hy; cases hy
      · exact h2 z hz
    | false =>
      rw [e] at h1 h2
      simp only [Bool.false_eq_true, if_false] at h1 h2
      have hx := h2 x List.mem_cons_self
      refine ⟨?_, fun z hz => ?_⟩
      · rcases List.mem_cons.mp h1 with h | h
        · rw [h]; exact List.mem_cons_self
        · exact List.mem_cons_of_mem _ (List.mem_cons_of_mem _ h)
      · rcases List.mem_cons.mp hz with rfl | hz
        · exact hx
        · rcases List.mem_cons.mp hz with rfl | hz
          · cases e2 : lt z m with
            | false => rfl
            | true =>
              cases e3 : lt m x with
              | true => rw [tr z m x e2 e3] at e; cases e
              | false => rw [tri m x e3 hx] at e2; rw [e2] at e; cases e
          · exact h2 z (List.mem_cons_of_mem _ hz)
theorem intsAre_inj {vs : List Value} {a b : List Int} (h1 : IntsAre vs a) (h2 : IntsAre vs b) : a = b := h1.nums.symm.trans h2.nums
section
variable {X : Cx} {k : Nat}
theorem holdT {pins : List (Addr × Obj)} {σ : L2.St} {H : Hp} {s : Shared} (I : Inv X pins σ H s) : ∀ {ks : List (Addr × List Int)}, (∀ p ∈ ks, SqT X.K H p.1 (p.2.map V.int)) → PySem.W.HoldAll s.heap (ks.map fun p => Value.ref p.1) (ks.map fun p => PySem.W.Tup.mk p.2)
  | [], _ => PySem.W.HoldAll.nil
  | p :: ks, h => by
    obtain ⟨its, r, t, _⟩ := I.tuple (h p List.mem_cons_self)
    exact PySem.W.HoldAll.cons (PySem.W.holds_tup t (by simpa using PySem.W.HoldAll.of_ints r.ints)) (holdT I fun q hq => h q (List.mem_cons_of_mem _ hq))
/-- min(xs), xs a list of tuples of ints -/
theorem cr_minTL (a : At X k) : CallR X (.builtin "min") (fun xs H Q => ∃ (l : Addr) (ks : List (Addr × List Int)), xs = [V.ref l] ∧ SqL X.K H l (ks.map fun p => V.ref p.1) ∧ (∀ p ∈ ks, SqT X.K H p.1 (p.2.map V.int)) ∧ ks ≠ [] ∧
    ∀ p ∈ ks, (∀ q ∈ ks, HT.lexLt q.2 p.2 = false) → Q (.ref p.1) H) := by
  rintro pins s σ H xs us Q I r ⟨l, ks, rfl, hl, hk, hne, q⟩
  rw [Vals.ref1 r]
  obtain ⟨its, rv, pl, hz⟩ := I.list hl
  have e := refs_of_vals rv
  obtain ⟨p, ks, rfl⟩ : ∃ p ks', ks = p :: ks' := by
    cases ks with
    | nil => exact absurd rfl hne
    | cons p ks' => exact ⟨p, ks', rfl⟩
  have hh := holdT I hk
  have hu := a.u64
  refine PySem.W.min_list_datum (x := PySem.W.Tup.mk p.2) (xs := ks.map fun p => PySem.W.Tup.mk p.2) (I.ok.hd a.calm) pl.isList (by rw [e]; simpa using hh) (by show X.A.units + 1 + 1 < cLine; omega) fun i v h' tk hi hv hkeep => ?_
  rw [e] at hi
  have hi : ((p :: ks).map fun p => Value.ref p.1)[i]? = some v := by simpa using hi
  rw [List.getElem?_map] at hi
  cases e2 : (p :: ks)[i]? with
  | none => rw [e2] at hi; cases hi
  | some z =>
    rw [e2] at hi
    have hi := Option.some.inj hi
    subst hi
    have hz := List.mem_of_getElem? e2
    refine ⟨.ref z.1, H, I.kept (t' := tk) hkeep, rfl, q z hz fun y hy => ?_⟩
    obtain ⟨h1, h2⟩ := fold_least (fun (a b : PySem.W.Tup Int) => HT.lexLt a.items b.items) (fun a => lexLt_irr _) (fun a b c => lexLt_trans) (fun a b g1 g2 => by
      cases a; cases b; exact congrArg PySem.W.Tup.mk (lexLt_tri g1 g2)) (ks.map fun p => PySem.W.Tup.mk p.2) (PySem.W.Tup.mk p.2)
    have em : PySem.W.minOf (PySem.W.Tup.mk p.2) (ks.map fun p => PySem.W.Tup.mk p.2) = PySem.W.Tup.mk z.2 := by
      obtain ⟨l1, vs1, e3, t1, g1⟩ := PySem.W.tup_of_holds hv
      obtain ⟨its2, r2, t2, _⟩ := (I.kept (t' := tk) hkeep).tuple (hk z hz)
      cases e3
      have e4 : vs1 = its2.toArray := by
        obtain ⟨o1, g3, _, n1, d1⟩ := t1
        obtain ⟨o2, g4, _, n2, d2⟩ := t2
        have g5 := Option.some.inj (g3.symm.trans g4)
        subst g5
        rw [d1] at d2
        injection d2
      subst e4
      have e5 := intsAre_inj g1.toInts (show IntsAre its2.toArray.toList z.2 by simpa using r2.ints)
      generalize PySem.W.minOf (PySem.W.Tup.mk p.2) (ks.map fun p => PySem.W.Tup.mk p.2) = mm at e5
      cases mm
      exact congrArg PySem.W.Tup.mk e5
    have h3 := h2 (PySem.W.Tup.mk y.2) (by
      rcases List.mem_cons.mp hy with rfl | hy
      · exact List.mem_cons_self
      · exact List.mem_cons_of_mem _ (List.mem_map_of_mem hy))
    have e6 : PySem.W.minOf (PySem.W.Tup.mk p.2) (ks.map fun p => PySem.W.Tup.mk p.2) = List.foldl (fun a y => if HT.lexLt y.items a.items = true then y else a) (PySem.W.Tup.mk p.2) (ks.map fun p => PySem.W.Tup.mk p.2) := by
      unfold PySem.W.minOf
      congr 1
      funext a y
      show (if PySem.W.listLt y.items a.items = true then y else a) = _
      rw [listLt_lex]
    rw [← e6, em] at h3
    exact h3
/-- max(t), min(t) of a tuple of ints -/
theorem cr_maxT (a : At X k) : CallR X (.builtin "max") (fun xs H Q => ∃ (l : Addr) (ns : List Int), xs = [V.ref l] ∧ SqT X.K H l (ns.map V.int) ∧ ns ≠ [] ∧ ∀ m ∈ ns, (∀ y ∈ ns, y ≤ m) → Q (.int m) H) := by
  rintro pins s σ H xs us Q I r ⟨l, ns, rfl, hl, hne, q⟩
  rw [Vals.ref1 r]
  obtain ⟨its, rv, pl, hz⟩ := I.tuple hl
  obtain ⟨n, ns, rfl⟩ : ∃ n ns', ns = n :: ns' := by
    cases ns with
    | nil => exact absurd rfl hne
    | cons p ns' => exact ⟨p, ns', rfl⟩
  have hu := a.u64
  refine PySem.W.max_tuple_datum (x := n) (xs := ns) (I.ok.hd a.calm) pl (by simpa using PySem.W.HoldAll.of_ints rv.ints) (by show X.A.units + 1 + 0 < cLine; omega) fun i v h' tk hi hv hkeep => ?_
  obtain ⟨t, rfl⟩ := PySem.W.int_of_holds hv
  obtain ⟨h1, h2⟩ := fold_least (fun (a b : Int) => decide (b < a)) (fun a => by simp) (fun a b c g1 g2 => by simp at g1 g2 ⊢; omega) (fun a b g1 g2 => by simp at g1 g2; omega) ns n
  exact ⟨.int _, H, I.kept (t' := tk) hkeep, ⟨_, rfl⟩, q _ h1 fun y hy => Int.not_lt.mp (of_decide_eq_false (h2 y hy))⟩
theorem cr_minT (a : At X k) : CallR X (.builtin "min") (fun xs H Q => ∃ (l : Addr) (ns : List Int), xs = [V.ref l] ∧ SqT X.K H l (ns.map V.int) ∧ ns ≠ [] ∧ ∀ m ∈ ns, (∀ y ∈ ns, m ≤ y) → Q (.int m) H) := by
  rintro pins s σ H xs us Q I r ⟨l, ns, rfl, hl, hne, q⟩
  rw [Vals.ref1 r]
  obtain ⟨its, rv, pl, hz⟩ := I.tuple hl
  obtain ⟨n, ns, rfl⟩ : ∃ n ns', ns = n :: ns' := by
    cases ns with
    | nil => exact absurd rfl hne
    | cons p ns' => exact ⟨p, ns', rfl⟩
  have hu := a.u64
  refine PySem.W.min_tuple_datum (x := n) (xs := ns) (I.ok.hd a.calm) pl (by simpa using PySem.W.HoldAll.of_ints rv.ints) (by show X.A.units + 1 + 0 < cLine; omega) fun i v h' tk hi hv hkeep => ?_
  obtain ⟨t, rfl⟩ := PySem.W.int_of_holds hv
  obtain ⟨h1, h2⟩ := fold_least (fun (a b : Int) => decide (a < b)) (fun a => by simp) (fun a b c g1 g2 => by simp at g1 g2 ⊢; omega) (fun a b g1 g2 => by simp at g1 g2; omega) ns n
  exact ⟨.int _, H, I.kept (t' := tk) hkeep, ⟨_, rfl⟩, q _ h1 fun y hy => Int.not_lt.mp (of_decide_eq_false (h2 y hy))⟩
end
end MP

set_option Elab.async false
set_option linter.all false
set_option maxRecDepth 100000
set_option maxHeartbeats 1000000
/-! Built-in calls on trees: the promise. -/
namespace MP
open PySem PySem.Spec PyProof.Rows L2
section
variable {X : Cx} {k : Nat}
theorem mergeK_nodup : ∀ {kvs acc : List (Key × V)}, ((acc ++ kvs).map (·.1)).Nodup → mergeK acc kvs = acc ++ kvs
  | [], acc, _ => by simp [mergeK]
  | (k, v) :: r, acc, h => by
    have hk : (acc.any fun kv => decide (kv.1 = k)) = false := by
      rw [List.any_eq_false]
      intro x hx
      simp only [decide_eq_true_eq]
      rintro rfl
      rw [List.map_append, List.nodup_append] at h
      exact h.2.2 x.1 (List.mem_map.mpr ⟨x, hx, rfl⟩) x.1 (by simp) rfl
    have e : putK acc k v = acc ++ [(k, v)] := by unfold putK; rw [hk]; rfl
    show mergeK (putK acc k v) r = _
    rw [e, mergeK_nodup (by simpa using h)]
    simp
theorem seqP_of {K : W.Frag} {Z : Addr → Prop} {H : Hp} {y : V} {d : D} {b : Cnt} {xs : List D} (h : Own K Z H [y] [d] b) (e : seqD d = some xs) : ∃ p us c, y = .ref p ∧ (SqL K H p us ∨ SqP K H p us) ∧ Own K Z H us xs c := by
  cases d <;> first | (cases e; done) | skip
  · have e := Option.some.inj e
    subst e
    cases h with
    | tup q o _ => exact ⟨_, _, _, rfl, .inr q, o⟩
  · have e := Option.some.inj e
    subst e
    cases h with
    | lst q o _ => exact ⟨_, _, _, rfl, .inl (.of q), o⟩
  · have e := Option.some.inj e
    subst e
    cases h with
    | fl q o _ => exact ⟨_, _, _, rfl, .inl q.seq, o⟩
theorem own_keys {K : W.Frag} {Z : Addr → Prop} {H : Hp} : ∀ {ks : List Key}, Own K Z H (ks.map kV) (ks.map keyD) fun _ => 0
  | [] => .nil
  | .inl _ :: _ => .int own_keys
  | .inr _ :: _ => .str own_keys
theorem keyD_v {K : W.Frag} {Z : Addr → Prop} {H : Hp} {key : Key} {v : V} {c : Cnt} (h : Own K Z H [v] [keyD key] c) : v = kV key := by
  cases key <;> (cases h; rfl)
theorem pairs_own {K : W.Frag} {Z : Addr → Prop} {H : Hp} : ∀ {kvs : List (Key × D)} {us : List V} {c : Cnt}, Own K Z H us (kvs.map pairD) c → ∃ (ps : List Addr) (kvs' : List (Key × V)), us = ps.map V.ref ∧ kvs'.map (·.1) = kvs.map (·.1) ∧
    Paired (fun p kv => SqT K H p [kV kv.1, kv.2]) ps kvs' ∧ Own K Z H (kvs'.map (·.2)) (kvs.map (·.2)) fun _ => 0
  | [], us, c, h => by
    have h1 := h.len
    have : us = [] := List.eq_nil_of_length_eq_zero (by simpa using h1)
    subst this
    exact ⟨[], [], rfl, rfl, .nil, .nil⟩
  | (key, d) :: kvs, us, c, h => by
    have h : Own K Z H us (.tup [keyD key, d] :: kvs.map pairD) c := h
    cases h with
    | tup q o t =>
      obtain ⟨ps, kvs', rfl, e2, e3, o2⟩ := pairs_own t
      obtain ⟨v1, v2, hv⟩ := two_of o
      subst hv
      obtain ⟨c1, c2, g1, g2, e⟩ := o.uncons
      have := keyD_v g1
      subst this
      refine ⟨_ :: ps, (key, v2) :: kvs', rfl, by rw [List.map_cons, List.map_cons, e2], .cons q.seq e3, ?_⟩
      exact ((g2.zero_of fun a => by have := e a; omega).cons o2).cast fun a => rfl
theorem refs_ex : ∀ {ps : List Addr} {n : Nat} {j : Nat} {b : Addr}, ps[j]? = some b → (fun i => ps.getD i n) j = b
  | ps, n, j, b, e => by simp [List.getD_eq_getElem?_getD, e]
theorem SqP.plain {X : Cx} {pins : List (Addr × Obj)} {σ : L2.St} {H : Hp} {s : Shared} {a : Addr} {xs : List V} (I : Inv X pins σ H s) (h : SqP X.K H a xs) : ∃ its : List Value, Vals xs its ∧ PySem.PlainSeq "tuple" s.heap a its.toArray ∧ xs.length ≤ sizeLine := by
  rcases h with ⟨o, hd, h⟩ | ⟨o, its, n, hd, hk, hc, hs, hz, r⟩
  · obtain ⟨e, z, its, r, o', e', hc, n, hs⟩ := (show ObjOk X.prog X.w H s.heap a (.frz o (.tup xs)) from I.hok a _ h)
    rw [e] at e'
    have e' := Option.some.inj e'
    subst e'
    exact ⟨its, r, ⟨o, n, e, hc, hd, hs⟩, z⟩
  · refine ⟨its.toList, r, ⟨o, n, I.kIn a o hk, hc, hd, by simpa using hs⟩, ?_⟩
    have e := r.length
    simp only [Array.length_toList] at e
    omega
/-- the pairs of a tuple, as values -/
theorem pairs_at {X : Cx} {pins : List (Addr × Obj)} {σ : L2.St} {H : Hp} {s : Shared} (I : Inv X pins σ H s) : ∀ {ps : List Addr} {kvs : List (Key × V)}, Paired (fun p kv => SqT X.K H p [kV kv.1, kv.2]) ps kvs →
    ∃ (prs : List (Key × Value)) (vps : List (Value × Value)), KV kvs prs ∧ prs.length = ps.length ∧ vps.length = ps.length ∧ (∀ (j : Nat) (u v : Value), vps[j]? = some (u, v) → ∃ b, ps[j]? = some b ∧ PySem.PairAt s.heap b u v) ∧
      ∀ (j : Nat) (u v : Value), vps[j]? = some (u, v) → ∃ key, prs[j]? = some (key, v) ∧ (mixKind X.prog X.w).is key u = true
  | _, _, .nil => ⟨[], [], .nil, rfl, rfl, fun j u v e => by simp at e, fun j u v e => by simp at e⟩
  | _, _, .cons (a := p) (b := kv) h t => by
    obtain ⟨prs, vps, r, hl, hl2, h1, h2⟩ := pairs_at I t
    obtain ⟨its, rv, ht, _⟩ := I.tuple h
    obtain ⟨u, y, ei, ru, ry⟩ := vals2 rv
    subst ei
    refine ⟨(kv.1, y) :: prs, (u, y) :: vps, .cons ⟨rfl, ry⟩ r, by rw [List.length_cons, List.length_cons, hl], by rw [List.length_cons, List.length_cons, hl2], fun j u' v' e => ?_, fun j u' v' e => ?_⟩
    · cases j with
      | zero =>
        have e := Prod.mk.inj (Option.some.inj e)
        obtain ⟨rfl, rfl⟩ := e
        exact ⟨p, rfl, .inl ht⟩
      | succ j => obtain ⟨b, e1, e2⟩ := h1 j u' v' (by simpa using e); exact ⟨b, by simpa using e1, e2⟩
    · cases j with
      | zero =>
        have e := Prod.mk.inj (Option.some.inj e)
        obtain ⟨rfl, rfl⟩ := e
        exact ⟨kv.1, rfl, kV_is (P := X.prog) (w := X.w) ru⟩
      | succ j => obtain ⟨key, e1, e2⟩ := h2 j u' v' (by simpa using e); exact ⟨key, by simpa using e1, e2⟩
/-- dict(xs) of a tuple or list of pairs -/
theorem call_dictPT {X : Cx} (hcalm : X.calm = true) : CallR X (.type "dict") (fun xs H Q => ∃ (a : Addr) (ps : List Addr) (kvs : List (Key × V)), xs = [.ref a] ∧ (SqL X.K H a (ps.map V.ref) ∨ SqP X.K H a (ps.map V.ref)) ∧ Paired (fun p kv => SqT X.K H p [kV kv.1, kv.2]) ps kvs ∧
    ∀ p, H p = none → Q (.ref p) (upd H p (.dK (mergeK [] kvs)))) := by
  intro pins s σ H xs us Q I r q
  obtain ⟨a, ps, kvs, ex, hq, hp, q⟩ := q
  rcases hq with hq | hq
  · exact call_dictP hcalm pins s σ H xs us Q I r ⟨a, ps, kvs, ex, hq, hp, q⟩
  subst ex
  obtain ⟨u, eu, rx⟩ := vals1 r
  subst eu
  cases rx
  obtain ⟨its, rv, pl, hz⟩ := hq.plain I
  have ei := refs_at rv
  subst ei
  rw [List.length_map] at hz
  obtain ⟨prs, vps, rel, hl, hl2, h1, h2⟩ := pairs_at I hp
  refine PySem.call_dict_pairs (knd := mixKind X.prog X.w) (kvs := prs) (PySem.PairArg.tuple a (ps.map Value.ref).toArray (fun i => ps.getD i 0) vps) (I.ok.hd hcalm) ⟨pl, by simp [hl2], fun j u v e => ?_⟩ ⟨by rw [hl, hl2], fun i u v e => ?_⟩ (by rw [hl2]; exact hz) fun h' tk hd' k => ?_
  · obtain ⟨b, e1, e2⟩ := h1 j u v e
    have eb : ps.getD j 0 = b := refs_ex e1
    dsimp only
    rw [eb]
    exact ⟨by simp [e1], e2⟩
  · obtain ⟨key, e1, e2⟩ := h2 i u v e
    exact ⟨key, e1, e2⟩
  · have hm : (s.heap.objs.size == sysModules) = false := beq_eq_false_iff_ne.mpr (Nat.ne_of_gt I.big)
    have hlen : (mergeK [] kvs).length ≤ sizeLine := by
      refine Nat.le_trans (length_mergeK kvs []) ?_
      rw [List.length_nil, Nat.zero_add, rel.length, hl]
      exact hz
    exact ⟨.ref s.heap.objs.size, upd H s.heap.objs.size (.dK (mergeK [] kvs)), I.laid (t' := tk) (fun b o e => k b o (by simp) e) (Nat.le_refl _) (show ObjOk X.prog X.w _ _ _ (.dK (mergeK [] kvs)) from ⟨hlen, hm, merged [] prs, KV.merge rel .nil, hd'⟩), rfl, q _ (I.hok.fresh (Nat.le_refl _))⟩
theorem biS_ok (a : At X k) (b : Bi) : CallR X b.val (rBi X.K b) := by
  cases b with
  | int =>
    intro pins s σ H xs us Q I r h
    obtain ⟨Z, ds, c, kk, ho, hs, F⟩ := h
    match ds, hs with
    | [.int i], hs =>
      obtain ⟨x, rfl⟩ := one_of ho
      cases ho with
      | int ho => exact call_int1 pins s σ H _ us Q I r (.inl ⟨i, rfl, F.int hs⟩)
    | [.bl i], hs =>
      obtain ⟨x, rfl⟩ := one_of ho
      cases ho with
      | bl ho => exact call_int1 pins s σ H _ us Q I r (.inr ⟨i, rfl, F.int hs⟩)
  | len =>
    intro pins s σ H xs us Q I r h
    obtain ⟨Z, ds, c, kk, ho, hs, F⟩ := h
    match ds, hs with
    | [.tup es], hs =>
      obtain ⟨x, rfl⟩ := one_of ho
      cases ho with
      | tup q e t => exact call_len_seq pins s σ H _ us Q I r ⟨_, _, rfl, .inr q.seq, by rw [e.len]; exact F.int hs⟩
    | [.lst es], hs =>
      obtain ⟨x, rfl⟩ := one_of ho
      cases ho with
      | lst q e t => exact call_len_seq pins s σ H _ us Q I r ⟨_, _, rfl, .inl (.of q), by rw [e.len]; exact F.int hs⟩
    | [.fl es], hs =>
      obtain ⟨x, rfl⟩ := one_of ho
      cases ho with
      | fl q e t => exact call_len_seq pins s σ H _ us Q I r ⟨_, _, rfl, .inl q.seq, by rw [e.len]; exact F.int hs⟩
    | [.dct ks es], hs =>
      obtain ⟨x, rfl⟩ := one_of ho
      cases ho with
      | dct q hk hn e t =>
        subst hk
        exact call_lenD pins s σ H _ us Q I r ⟨_, _, rfl, q, F.int (by simpa [biS] using hs)⟩
  | max2 =>
    intro pins s σ H xs us Q I r h
    obtain ⟨Z, ds, c, kk, ho, hs, F⟩ := h
    match ds, hs with
    | [.int i, .int j], hs =>
      obtain ⟨x, y, rfl⟩ := two_of ho
      cases ho with
      | int ho => cases ho with
        | int ho => exact call_max2 a.calm pins s σ H _ us Q I r ⟨i, j, rfl, F.int hs⟩
  | min2 =>
    intro pins s σ H xs us Q I r h
    obtain ⟨Z, ds, c, kk, ho, hs, F⟩ := h
    match ds, hs with
    | [.int i, .int j], hs =>
      obtain ⟨x, y, rfl⟩ := two_of ho
      cases ho with
      | int ho => cases ho with
        | int ho => exact call_min2 a.calm pins s σ H _ us Q I r ⟨i, j, rfl, F.int hs⟩
  | max1 =>
    intro pins s σ H xs us Q I r h
    obtain ⟨Z, ds, c, kk, ho, hs, F⟩ := h
    match ds, hs with
    | [.lst es], hs =>
      obtain ⟨ns, e1, hne, hk⟩ := hs
      obtain ⟨x, rfl⟩ := one_of ho
      cases ho with
      | lst q e t => exact cr_max a.calm pins s σ H _ us Q I r ⟨_, ns, rfl, .of (by rw [← ints_of e e1]; exact q), List.length_pos_iff.mpr hne, fun m h1 h2 => F.int (hk m h1 h2)⟩
    | [.tup es], hs =>
      obtain ⟨ns, e1, hne, hk⟩ := hs
      obtain ⟨x, rfl⟩ := one_of ho
      cases ho with
      | tup q e t => exact cr_maxT a pins s σ H _ us Q I r ⟨_, ns, rfl, by rw [← ints_of e e1]; exact q.seq, hne, fun m h1 h2 => F.int (hk m h1 h2)⟩
  | min1 =>
    intro pins s σ H xs us Q I r h
    obtain ⟨Z, ds, c, kk, ho, hs, F⟩ := h
    match ds, hs with
    | [.lst es], hs =>
      obtain ⟨x, rfl⟩ := one_of ho
      cases ho with
      | lst q e t =>
        rcases (show _ ∨ _ from hs) with ⟨ns, e1, hne, hk⟩ | ⟨qs, e1, hne, hk⟩
        · exact cr_min a.calm pins s σ H _ us Q I r ⟨_, ns, rfl, .of (by rw [← ints_of e e1]; exact q), List.length_pos_iff.mpr hne, fun m h1 h2 => F.int (hk m h1 h2)⟩
        · subst e1
          obtain ⟨ks, rfl, e2, h3⟩ := tups_own e
          refine cr_minTL a pins s σ H _ us Q I r ⟨_, ks, rfl, .of q, fun p hp => (h3 p hp).seq, fun z => hne (by rw [← e2, z]; rfl), fun p hp hm => ?_⟩
          refine F.im _ _ (hk p.2 (by rw [← e2]; exact List.mem_map_of_mem hp) fun y hy => ?_) (.tup (h3 p hp) ints_back .nil)
          rw [← e2] at hy
          obtain ⟨z, hz, rfl⟩ := List.mem_map.mp hy
          exact hm z hz
    | [.tup es], hs =>
      obtain ⟨ns, e1, hne, hk⟩ := hs
      obtain ⟨x, rfl⟩ := one_of ho
      cases ho with
      | tup q e t => exact cr_minT a pins s σ H _ us Q I r ⟨_, ns, rfl, by rw [← ints_of e e1]; exact q.seq, hne, fun m h1 h2 => F.int (hk m h1 h2)⟩
  | abs =>
    intro pins s σ H xs us Q I r h
    obtain ⟨Z, ds, c, kk, ho, hs, F⟩ := h
    unfold biS at hs
    exact (by cases ds <;> exact False.elim (by simpa using hs))
  | list =>
    intro pins s σ H xs us Q I r h
    obtain ⟨Z, ds, c, kk, ho, hs, F⟩ := h
    match ds, hs with
    | [.dct ks es], hs =>
      obtain ⟨x, rfl⟩ := one_of ho
      cases ho with
      | dct q hk hn e t =>
        subst hk
        refine call_listD a.calm pins s σ H _ us Q I r ⟨_, _, rfl, .inl q, fun p hp => F.lst _ _ p hs ?_ hp⟩
        rw [List.map_map, show (List.map (fun kv : Key × V => kV kv.1) _) = _ from (List.map_map (f := fun kv : Key × V => kv.1) (g := kV)).symm, ← List.map_map]
        exact own_keys
    | [.fd ks es], hs =>
      obtain ⟨x, rfl⟩ := one_of ho
      cases ho with
      | fd q hk hn e t =>
        subst hk
        refine call_listD a.calm pins s σ H _ us Q I r ⟨_, _, rfl, q.rd, fun p hp => F.lst _ _ p hs ?_ hp⟩
        rw [List.map_map, show (List.map (fun kv : Key × V => kV kv.1) _) = _ from (List.map_map (f := fun kv : Key × V => kv.1) (g := kV)).symm, ← List.map_map]
        exact own_keys
    | [.tup es], hs =>
      obtain ⟨x, rfl⟩ := one_of ho
      cases ho with
      | tup q e t => exact call_list_of pins s σ H _ us Q I r ⟨_, _, rfl, .inr q.seq, fun p hp => F.lst _ _ p hs.2 e hp⟩
    | [.lst es], hs =>
      obtain ⟨x, rfl⟩ := one_of ho
      cases ho with
      | lst q e t => exact call_list_of pins s σ H _ us Q I r ⟨_, _, rfl, .inl (.of q), fun p hp => F.lst _ _ p hs.2 (e.imAll hs.1) hp⟩
    | [.fl es], hs =>
      obtain ⟨x, rfl⟩ := one_of ho
      cases ho with
      | fl q e t => exact call_list_of pins s σ H _ us Q I r ⟨_, _, rfl, .inl q.seq, fun p hp => F.lst _ _ p hs e hp⟩
  | dict =>
    intro pins s σ H xs us Q I r h
    obtain ⟨Z, ds, c, kk, ho, hs, F⟩ := h
    match ds, hs with
    | [d], hs =>
      obtain ⟨x, rfl⟩ := one_of ho
      obtain ⟨es, kvs, e1, rfl, hn, him, hk⟩ := hs
      obtain ⟨p, us', c', rfl, hq, o⟩ := seqP_of ho e1
      obtain ⟨ps, kvs', rfl, e3, e4, o2⟩ := pairs_own o
      refine call_dictPT a.calm pins s σ H _ us Q I r ⟨p, ps, kvs', rfl, hq, e4, fun p hp => ?_⟩
      have e5 : mergeK [] kvs' = kvs' := by rw [mergeK_nodup] <;> simp [e3, hn]
      rw [e5]
      rw [← e3] at hk hn
      exact F.dct _ _ p hk hn (o2.imAll him) hp
  | tuple =>
    intro pins s σ H xs us Q I r h
    obtain ⟨Z, ds, c, kk, ho, hs, F⟩ := h
    match ds, hs with
    | [.tup es], hs =>
      obtain ⟨x, rfl⟩ := one_of ho
      cases ho with
      | tup q e t => exact call_tupleP pins s σ H _ us Q I r ⟨_, _, rfl, .inr ⟨q.seq, F.im _ _ hs (.tup q e .nil)⟩⟩
    | [.lst es], hs =>
      obtain ⟨x, rfl⟩ := one_of ho
      cases ho with
      | lst q e t => exact call_tupleP pins s σ H _ us Q I r ⟨_, _, rfl, .inl ⟨.of q, fun p ob hd hp => F.tup _ _ p ob hd hs.2 (e.imAll hs.1) hp⟩⟩
    | [.fl es], hs =>
      obtain ⟨x, rfl⟩ := one_of ho
      cases ho with
      | fl q e t => exact call_tupleP pins s σ H _ us Q I r ⟨_, _, rfl, .inl ⟨q.seq, fun p ob hd hp => F.tup _ _ p ob hd hs e hp⟩⟩
  | all =>
    intro pins s σ H xs us Q I r h
    obtain ⟨Z, ds, c, kk, ho, hs, F⟩ := h
    match ds, hs with
    | [.lst es], hs =>
      obtain ⟨x, rfl⟩ := one_of ho
      have hs : (match bls? es with
        | some bs => kk (.bl (bs.all id))
        | none => False) := hs
      cases e1 : bls? es with
      | none => simp only [e1] at hs
      | some bs =>
        simp only [e1] at hs
        cases ho with
        | lst q e t => exact cr_all a.calm pins s σ H _ us Q I r ⟨_, bs, rfl, .of (by rw [← bls_of e e1]; exact q), F.bl hs⟩
  | any =>
    intro pins s σ H xs us Q I r h
    obtain ⟨Z, ds, c, kk, ho, hs, F⟩ := h
    match ds, hs with
    | [.lst es], hs =>
      obtain ⟨x, rfl⟩ := one_of ho
      have hs : (match bls? es with
        | some bs => kk (.bl (bs.any id))
        | none => False) := hs
      cases e1 : bls? es with
      | none => simp only [e1] at hs
      | some bs =>
        simp only [e1] at hs
        cases ho with
        | lst q e t => exact cr_any a.calm pins s σ H _ us Q I r ⟨_, bs, rfl, .of (by rw [← bls_of e e1]; exact q), F.bl hs⟩
  | sorted =>
    intro pins s σ H xs us Q I r h
    obtain ⟨Z, ds, c, kk, ho, hs, F⟩ := h
    match ds, hs with
    | [.lst es], hs =>
      obtain ⟨x, rfl⟩ := one_of ho
      cases ho with
      | lst q e t =>
        rcases (show _ ∨ _ from hs) with ⟨ns, e1, hs2⟩ | ⟨ps, e1, hs2⟩
        · exact cr_sortedI pins s σ H _ us Q I r ⟨_, ns, rfl, .of (by rw [← ints_of e e1]; exact q), fun ns' p h1 h2 hp => F.lst _ _ p (hs2 ns' h1 h2) ints_back hp⟩
        · subst e1
          exact call_sortP pins s σ H _ us Q I r ⟨_, _, ps, rfl, .of q, pp_of e, fun ys qs p h1 h2 h3 hp => F.lst _ _ p (hs2 qs h2 (h3.imp fun h => h)) (pp_own h1) hp⟩
    | [.dct ks es], hs =>
      obtain ⟨x, rfl⟩ := one_of ho
      cases ho with
      | dct q hk hn e t =>
        obtain ⟨ns, e1, h64, hs2⟩ := hs
        exact call_sortedDI a.calm pins s σ H _ us Q I r ⟨_, _, ns, rfl, .inl q, by rw [hk]; exact e1, h64, fun ys p h1 h2 hp => F.lst _ _ p (hs2 ys h1 h2) ints_back hp⟩
  | str =>
    intro pins s σ H xs us Q I r h
    obtain ⟨Z, ds, c, kk, ho, hs, F⟩ := h
    match ds, hs with
    | [.int i], hs =>
      obtain ⟨x, rfl⟩ := one_of ho
      cases ho with
      | int ho => exact call_str_int pins s σ H _ us Q I r ⟨i, rfl, hs.1, F.str hs.2⟩
  | repr =>
    intro pins s σ H xs us Q I r h
    obtain ⟨Z, ds, c, kk, ho, hs, F⟩ := h
    match ds, hs with
    | [d], hs =>
      obtain ⟨x, rfl⟩ := one_of ho
      obtain ⟨z, e1, e2, e3, e4, q⟩ := hs
      exact call_repr a pins s σ H _ us Q I r ⟨_, z, rfl, ho.dp1 e1, e2, py_noDict _ _ e1, e3, by rw [← big_eq]; exact e4, F.str q⟩
/-- isinstance -/
theorem ty_of {K : W.Frag} {Z : Addr → Prop} {H : Hp} {x : V} {d : D} {c : Cnt} {n : String} (h : Own K Z H [x] [d] c) (e : tyName d = some n) : TyX K H x (.type n) := by
  cases h with
  | bot _ => cases e
  | non _ => have e := Option.some.inj e; subst e; exact .base .non
  | bl _ => have e := Option.some.inj e; subst e; exact .base (.bl _)
  | int _ => have e := Option.some.inj e; subst e; exact .base (.int _)
  | str _ => have e := Option.some.inj e; subst e; exact .base (.str _)
  | pr _ _ _ => cases e
  | fd q _ _ _ _ =>
    have e := Option.some.inj e; subst e
    rcases q with ⟨o, q⟩ | ⟨q, _⟩
    · exact .fDict q
    · exact .base (.dK q)
  | tup q _ _ =>
    have e := Option.some.inj e; subst e
    have q := q.seq
    rcases q with (q | ⟨o, q⟩) | ⟨o, its, n, k1, k2, _⟩
    · exact .base (.tup q)
    · exact .fTuple q
    · exact .kTuple k1 k2
  | fl q _ _ =>
    have e := Option.some.inj e; subst e
    rcases q with ⟨q, _⟩ | ⟨o, q⟩ | ⟨o, its, n, k1, k2, _⟩
    · exact .base (.lst q)
    · exact .base (.frz q)
    · exact .kList k1 k2
  | lst q _ _ => have e := Option.some.inj e; subst e; exact .base (.lst q)
  | dct q _ _ _ _ => have e := Option.some.inj e; subst e; exact .base (.dK q)
end
end MP

set_option Elab.async false
set_option linter.all false
set_option maxRecDepth 100000
set_option maxHeartbeats 1000000
/-! Calls of defs: the promise of a def from its trees. -/
namespace MP
open PySem PySem.Spec PyProof.Rows L2

def noX : OutK := fun _ _ => False
/-- what a def promises of its arguments' trees -/
def spOf (K : W.Frag) (F : FnS) (vs : List V) (H : Hp) (Q : VK) : Prop :=
  ∃ (Z : Addr → Prop) (ds : List D) (c : Cnt) (kk : OutK), Rel ⟨K, Z, H, c⟩ Z H vs ds c ∧ F ds kk noX ∧
    ∀ d outs v H' Z' c', kk d outs → Rel ⟨K, Z, H, c⟩ Z' H' (v :: vs) (d :: outs) c' → Q v H'
structure FnG (P : Program) (w : World) (K : W.Frag) (mg : Str → Option Value) (base : Heap) (k : Nat) (f : Addr) (fd : FuncData) (ps : List Str) (F : FnS) : Prop where
  len : ∀ ds k x, F ds k x → ds.length = ps.length
  run : ∀ (A : Around) (outer : List Env) (s : Shared) (H : Hp) (args : Args) (us : List Value) (vs : List V) (Q : VK), A.guards = some [] → Room k A → Env0 P w K mg base A outer s H → BindsTo s fd args (ps.zip us) → Vals vs us → spOf K F vs H Q →
    codeAny (model P w) A (.call (.ref f) args) (CR CX0 outer P w H s Q E0) s
theorem FnG.mono {P : Program} {w : World} {K : W.Frag} {mg : Str → Option Value} {base : Heap} {j k : Nat} {f : Addr} {fd : FuncData} {ps : List Str} {F : FnS} (g : FnG P w K mg base j f fd ps F) (h : j ≤ k) : FnG P w K mg base k f fd ps F :=
  ⟨g.len, fun A outer s H args us vs Q hg hr => g.run A outer s H args us vs Q hg (hr.mono h)⟩
theorem spOf.len {K : W.Frag} {F : FnS} {vs : List V} {H : Hp} {Q : VK} {n : Nat} (h : spOf K F vs H Q) (l : ∀ ds k x, F ds k x → ds.length = n) : vs.length = n := by
  obtain ⟨Z, ds, c, kk, R, f, _⟩ := h
  rw [R.own.len]; exact l _ _ _ f

section
variable {X : Cx} {k : Nat} {f : Addr} {fd : FuncData} {ps ks : List Str} {F : FnS} {x : Str} {p pos : Pos} {e : Expr} {es : List Expr} {kws : List Keyword} {t tk : TA}
theorem run_fnG {pins : List (Addr × Obj)} {σ : L2.St} {H : Hp} {s : Shared} {Q : VK} {us : List Value} {vs : List V} (g : FnG X.prog X.w X.K X.mg X.base k f fd ps F) (a : At X k) (hb : Binds X.K fd ps [])
    (I : Inv X pins σ H s) (r : Vals vs us) (h : spOf X.K F vs H Q) : wpAny (model X.prog X.w) X.A (call (.ref f) us) (EP X pins σ Q) X.xe s := by
  have hl : (us ++ []).length = ps.length := by rw [List.append_nil, ← r.length]; exact h.len g.len
  have hbb := hb s us I.kIn hl
  rw [List.append_nil] at hbb
  refine wpAny_call (codeAny_mono (g.run X.A X.stack s H ⟨us, []⟩ us vs Q a.guards a.room I.env0 hbb r h) fun r s' hq => ?_)
  cases r with
  | error e => exact False.elim hq
  | ok fl =>
    cases fl with
    | ret u => exact I.after hq
    | next => exact False.elim hq
    | brk => exact False.elim hq
    | cont => exact False.elim hq
def tCallG (K : W.Frag) (F : FnS) (t : TA) : TE := fun σ H Q => t σ H fun vs H1 => spOf K F vs H1 Q
theorem pe_callG (g : FnG X.prog X.w X.K X.mg X.base k f fd ps F) (a : At X k) (hb : Binds X.K fd ps []) (hg : Gl X x) (hm : X.mg x = some (.ref f)) (hk : W.keepIn X.K (.ref f) = true)
    (ha : PA X (e :: es) t) (hdb : (x == ("__debug__" : Str)) = false) (he : starEach (e :: es) X.env = (false, eval e X.env) :: starEach es X.env) (hpl : (backTo pos (starEach es X.env)).any (·.1) = false) :
    PE X (.Call (.Name x p) (e :: es) [] pos) (tCallG X.K F t) := by
  refine ⟨fun pins s σ H Q I h => ?_⟩
  refine wpAny_Call_Name_kw (ld_glob I hg hm ?_ hdb)
  refine PySem.W.callWith_K (h₀ := X.base) I.ok.mod.kin hk (thn (ha.run pos pins s σ H _ I h) fun us s1 ⟨vs, H1, I1, r, q⟩ => ⟨I1.kIn, ?_⟩) he hpl
  exact run_fnG g a hb I1 r q
theorem pe_callG0 (g : FnG X.prog X.w X.K X.mg X.base k f fd ps F) (a : At X k) (hb : Binds X.K fd ps []) (hg : Gl X x) (hm : X.mg x = some (.ref f)) (hk : W.keepIn X.K (.ref f) = true)
    (hdb : (x == ("__debug__" : Str)) = false) : PE X (.Call (.Name x p) [] [] pos) (tCallG X.K F tNil) := by
  refine ⟨fun pins s σ H Q I h => ?_⟩
  refine wpAny_Call_Name_kw (ld_glob I hg hm ?_ hdb)
  exact PySem.W.callWith_K0 I.kIn hk (run_fnG (us := []) g a hb I .nil h)
/-- keywords alone: the values by name, put in the parameters' order -/
structure KwB (K : W.Frag) (fd : FuncData) (ps ks : List Str) (perm : List Nat) : Prop where
  to : ∀ (s : Shared) (ws zs : List Value), K.In s.heap → ws.length = ks.length → permD ws perm = some zs → BindsTo s fd ⟨[], ks.zip ws⟩ (ps.zip zs)
theorem Vals.perm : ∀ {perm : List Nat} {vs zs : List V} {us : List Value}, Vals vs us → permD vs perm = some zs → ∃ ws, permD us perm = some ws ∧ Vals zs ws
  | [], vs, zs, us, r, e => by
    have e := Option.some.inj e
    subst e; exact ⟨[], rfl, .nil⟩
  | i :: is, vs, zs, us, r, e => by
    unfold permD at e
    cases e1 : vs[i]? with
    | none => rw [e1] at e; cases e
    | some v =>
      rw [e1] at e
      cases e2 : permD vs is with
      | none => rw [e2] at e; cases e
      | some z2 =>
        rw [e2] at e
        have e := Option.some.inj e
        subst e
        obtain ⟨u, hu, ru⟩ := r.get e1
        obtain ⟨w2, h2, r2⟩ := Vals.perm r e2
        exact ⟨u :: w2, by unfold permD; rw [hu, h2]; rfl, .cons ru r2⟩
def tCallGK (K : W.Frag) (F : FnS) (n : Nat) (perm : List Nat) (tk : TA) : TE := fun σ H Q => tk σ H fun vs H1 => vs.length = n ∧ ∃ zs, permD vs perm = some zs ∧ spOf K F zs H1 Q
theorem pe_callGK {perm : List Nat} (g : FnG X.prog X.w X.K X.mg X.base k f fd ps F) (a : At X k) (hb : KwB X.K fd ps ks perm) (hg : Gl X x) (hm : X.mg x = some (.ref f)) (hk : W.keepIn X.K (.ref f) = true)
    (hkw : PK X kws tk) (hall : (backToKw pos (keywordEach kws X.env)).all (·.1.isSome) = true) (hks : (backToKw pos (keywordEach kws X.env)).filterMap (·.1) = ks)
    (hdb : (x == ("__debug__" : Str)) = false) (hpl : ((backTo pos (starEach [] X.env)).any (·.1) || (backToKw pos (keywordEach kws X.env)).any (·.1.isNone)) = false) :
    PE X (.Call (.Name x p) [] kws pos) (tCallGK X.K F ks.length perm tk) := by
  refine ⟨fun pins s σ H Q I h => ?_⟩
  refine wpAny_Call_Name_kw (ld_glob I hg hm ?_ hdb)
  refine PySem.W.callWith_KW0 (h₀ := X.base) I.ok.mod.kin hk hall ?_ hpl
  refine thn (hkw.run pos pins s σ H _ I h) fun ws s2 ⟨vs, H2, I2, rz, l1, zs, e, q2⟩ => ⟨I2.kIn, ?_⟩
  rw [hks]
  obtain ⟨us, e2, r2⟩ := Vals.perm rz e
  have hbb := hb.to s2 ws us I2.kIn (by rw [← rz.length]; exact l1) e2
  show wpAny _ _ (call (.ref f) [] (ks.zip ws)) _ _ _
  refine wpAny_call (codeAny_mono (g.run X.A X.stack s2 H2 ⟨[], ks.zip ws⟩ us zs Q a.guards a.room I2.env0 hbb r2 q2) fun r s' hq => ?_)
  cases r with
  | error e => exact False.elim hq
  | ok fl =>
    cases fl with
    | ret u => exact I2.after hq
    | next => exact False.elim hq
    | brk => exact False.elim hq
    | cont => exact False.elim hq
end

/-- THE RULE for a def -/
theorem fn_ofG {P : Program} {w : World} {K : W.Frag} {mg : Str → Option Value} {base : Heap} {k : Nat} {f : Addr} {x qual : Str} {st : Stmt} {fd : FuncData} {N ps : List Str} {F : FnS} (fn : Fun K x qual st f fd) (S : FnScope N ps (defScope st))
    (len : ∀ ds k x, F ds k x → ds.length = ps.length)
    (hbody : ∀ (cdv : Value) (A : Around) (outer : List Env) (s : Shared) (H : Hp) (vs : List V) (Q : VK), At (cxOf CX0 P w K mg base N qual (defScope st) f cdv A outer s H E0).nox k → spOf K F vs H Q →
      ∃ t, PSs (cxOf CX0 P w K mg base N qual (defScope st) f cdv A outer s H E0).nox (defBody st) t ∧ t { nx := fun _ H' => Q .non H', rt := Q } (start N vs) H) : FnG P w K mg base (k + 1) f fd ps F := by
  obtain ⟨oc, od, kV, doc, pm, an, cdv, ct, osl, rfl, lk, hcd⟩ := fn.ex
  refine ⟨len, fun A outer s H args us vs Q hgd hr e0 hb r hsp => ?_⟩
  have hl := hsp.len len
  have KX : K.In s.heap := e0.mod.kin.keeps fun b o e => (e0.bs b o e).1
  have lim : s.heap.NoLimit := e0.mod.nolimit.keeps fun b o e => (e0.bs b o e).1
  have hkind : ∀ y ∈ ps.zip us, (defScope st).names.lookup y.1 = some .local ∨ ((defScope st).names.lookup y.1 = some .cell ∧ ((cellsFrom (s.heap.objs.size + 1) (defScope st).names []).lookup y.1).isSome = true) := fun ⟨n, v⟩ hy => by
    rcases S.par n (List.of_mem_zip hy).1 with q | q
    · exact .inl q
    · exact .inr ⟨q, PySem.W.cellsFrom_some _ _ _ (.inl q)⟩
  refine codeAny_call_function hr.depth (KX _ _ lk) rfl S.co S.gen rfl (PySem.W.codeRec_of KX hcd) (hb _ _ _ _ ?_)
  refine wpAny_newFunctionEnv_cells S.kind hkind fun env he s1 x => ?_
  subst he
  refine ⟨lim.keeps x.toInCall.keep, codeAny_func ?_⟩
  obtain ⟨t, ht, hq⟩ := hbody cdv A outer s H vs Q ⟨rfl, hgd, hr.deeper _⟩ hsp
  have I : Inv (cxOf CX0 P w K mg base N qual (defScope st) f cdv A outer s H E0) [] (start N vs) H s1 := inv_start S hr.hd e0 hl r x
  refine wpAny_mono (ht.nox.run [] s1 (start N vs) H _ I hq) (fun fl s' hs => ?_) fun e s' hs => hs
  have fin : ∀ {σ' : L2.St} {H' : Hp} {v : V} {u : Value}, Inv (cxOf CX0 P w K mg base N qual (defScope st) f cdv A outer s H E0) [] σ' H' s' → RelV v u → Q v H' → CE outer P w H s Q u s' :=
    fun {σ' H' v u} J rv q => ⟨v, H', J.os, J.bare, J.base, J.hok, rv, q⟩
  cases fl with
  | ret u =>
    obtain ⟨v, σ', H', J, rv, q⟩ := hs
    exact fin J rv q
  | next =>
    obtain ⟨σ', H', J, q⟩ := hs
    exact fin (v := V.non) (u := Value.none) J rfl q
  | brk =>
    obtain ⟨_, _, _, q⟩ := hs
    exact False.elim q
  | cont =>
    obtain ⟨_, _, _, q⟩ := hs
    exact False.elim q

/-! ### the arguments gathered -/
section
variable {K : W.Frag} {Z : Addr → Prop} {H : Hp} {fr us tvs : List V} {σ ds tds : List D} {c c1 c2 : Cnt}
theorem putOuts_set {i : Nat} {x : D} : ∀ {rs : List RV} {outs : List D} {σ : List D} {l : List Nat}, heads rs = some l → i ∉ l → putOuts (σ.set i x) rs outs = (putOuts σ rs outs).set i x
  | [], outs, σ, l, _, _ => by cases outs <;> simp [putOuts]
  | .val d :: rs, [], σ, l, _, _ => by simp [putOuts]
  | .val d :: rs, o :: outs, σ, l, e, h => by
    show putOuts (σ.set i x) rs outs = (putOuts σ rs outs).set i x
    exact putOuts_set (show heads rs = some l from e) h
  | .ref [] :: rs, outs, σ, l, e, h => by cases e
  | .ref (j :: q :: p) :: rs, outs, σ, l, e, h => by cases e
  | .ref [j] :: rs, [], σ, l, _, _ => by simp [putOuts]
  | .ref [j] :: rs, o :: outs, σ, l, e, h => by
    have e : (heads rs).map (j :: ·) = some l := e
    cases e2 : heads rs with
    | none => rw [e2] at e; cases e
    | some l2 =>
      rw [e2] at e
      have e := Option.some.inj e
      subst e
      simp only [List.mem_cons, not_or] at h
      show putOuts ((σ.set i x).set j o) rs outs = (putOuts (σ.set j o) rs outs).set i x
      rw [List.set_comm _ _ h.1]
      exact putOuts_set e2 h.2
theorem putOuts_get {i : Nat} : ∀ {rs : List RV} {outs : List D} {σ : List D} {l : List Nat}, heads rs = some l → i ∉ l → (putOuts σ rs outs)[i]? = σ[i]?
  | [], outs, σ, l, _, _ => by cases outs <;> simp [putOuts]
  | .val d :: rs, [], σ, l, _, _ => by simp [putOuts]
  | .val d :: rs, o :: outs, σ, l, e, h => by
    show (putOuts σ rs outs)[i]? = σ[i]?
    exact putOuts_get (show heads rs = some l from e) h
  | .ref [] :: rs, outs, σ, l, e, h => by cases e
  | .ref (j :: q :: p) :: rs, outs, σ, l, e, h => by cases e
  | .ref [j] :: rs, [], σ, l, _, _ => by simp [putOuts]
  | .ref [j] :: rs, o :: outs, σ, l, e, h => by
    have e : (heads rs).map (j :: ·) = some l := e
    cases e2 : heads rs with
    | none => rw [e2] at e; cases e
    | some l2 =>
      rw [e2] at e
      have e := Option.some.inj e
      subst e
      simp only [List.mem_cons, not_or] at h
      show (putOuts (σ.set j o) rs outs)[i]? = σ[i]?
      rw [putOuts_get e2 h.2, List.getElem?_set_ne (Ne.symm h.1)]
theorem putOuts_len : ∀ {rs : List RV} {outs : List D} {σ : List D}, (putOuts σ rs outs).length = σ.length
  | [], outs, σ => by cases outs <;> simp [putOuts]
  | .val d :: rs, [], σ => by simp [putOuts]
  | .val d :: rs, o :: outs, σ => by show (putOuts σ rs outs).length = _; exact putOuts_len
  | .ref [] :: rs, [], σ => by simp [putOuts]
  | .ref [] :: rs, _ :: _, σ => by simp [putOuts]
  | .ref (j :: q :: p) :: rs, [], σ => by simp [putOuts]
  | .ref (j :: q :: p) :: rs, _ :: _, σ => by simp [putOuts]
  | .ref [j] :: rs, [], σ => by simp [putOuts]
  | .ref [j] :: rs, o :: outs, σ => by
    show (putOuts (σ.set j o) rs outs).length = _
    rw [putOuts_len, List.length_set]
theorem rdAll_set {i : Nat} {x : D} : ∀ {rs : List RV} {σ : List D} {l : List Nat}, heads rs = some l → i ∉ l → rdAll (σ.set i x) rs = rdAll σ rs
  | [], σ, l, _, _ => rfl
  | .val d :: rs, σ, l, e, h => by
    unfold rdAll
    rw [rdAll_set (show heads rs = some l from e) h]
    rfl
  | .ref [] :: rs, σ, l, e, h => by cases e
  | .ref (j :: q :: p) :: rs, σ, l, e, h => by cases e
  | .ref [j] :: rs, σ, l, e, h => by
    have e : (heads rs).map (j :: ·) = some l := e
    cases e2 : heads rs with
    | none => rw [e2] at e; cases e
    | some l2 =>
      rw [e2] at e
      have e := Option.some.inj e
      subst e
      simp only [List.mem_cons, not_or] at h
      unfold rdAll
      rw [rdAll_set e2 h.2]
      show (nb (σ.set i x)[j]?).bind _ = (nb σ[j]?).bind _
      rw [List.getElem?_set_ne h.1]
theorem slot_in {i : Nat} : ∀ {rs : List RV} {ds : List D} {l : List Nat}, heads rs = some l → rdAll σ rs = some ds → i ∈ l → ∃ d, σ[i]? = some d ∧ d ≠ .bot
  | [], ds, l, e, _, h => by
    have e := Option.some.inj e
    subst e; cases h
  | .val d :: rs, ds, l, e, r, h => by
    unfold rdAll at r
    cases e2 : rdAll σ rs with
    | none => simp [rd, e2] at r
    | some ds2 => exact slot_in (show heads rs = some l from e) e2 h
  | .ref [] :: rs, ds, l, e, _, h => by cases e
  | .ref (j :: q :: p) :: rs, ds, l, e, _, h => by cases e
  | .ref [j] :: rs, ds, l, e, r, h => by
    have e : (heads rs).map (j :: ·) = some l := e
    have r : (nb σ[j]?).bind (fun d => (rdAll σ rs).map (d :: ·)) = some ds := r
    cases e2 : heads rs with
    | none => rw [e2] at e; cases e
    | some l2 =>
      rw [e2] at e
      have e := Option.some.inj e
      subst e
      cases e0 : nb σ[j]? with
      | none => rw [e0] at r; cases r
      | some d =>
        cases e4 : rdAll σ rs with
        | none => rw [e0, e4] at r; cases r
        | some ds2 =>
          rcases List.mem_cons.mp h with rfl | h
          · exact ⟨d, nb_some e0⟩
          · exact slot_in e2 e4 h
inductive RVoks (fr : List V) : List V → List RV → Prop
  | nil : RVoks fr [] []
  | val {v vs d rs} : RVoks fr vs rs → RVoks fr (v :: vs) (.val d :: rs)
  | ref {v vs i rs} : fr[i]? = some v → RVoks fr vs rs → RVoks fr (v :: vs) (.ref [i] :: rs)
theorem gather : ∀ {rs : List RV} {us : List V} {σ ds : List D} {c1 c2 : Cnt} {l : List Nat}, Own K Z H fr σ c1 → Own K Z H us (rs.map RV.own) c2 → RVoks fr us rs → rdAll σ rs = some ds → heads rs = some l → nodupB l = true →
    ∃ cb r : Cnt, Own K Z H us ds cb ∧ (∀ a, c1 a + c2 a = cb a + r a) ∧
      ∀ (Z' : Addr → Prop) (H' : Hp) (outs : List D) (cb' : Cnt), Own K Z' H' us outs cb' → (∀ a, 0 < r a → H' a = H a) → (∀ a o, H a = some o → Still Z a o → H' a = some o) → (∀ a, Z a → Z' a) →
        ∃ c', Own K Z' H' fr (putOuts σ rs outs) c' ∧ ∀ a, c' a ≤ cb' a + r a
  | [], us, σ, ds, c1, c2, l, h1, h2, ro, e, _, _ => by
    have e := Option.some.inj e
    subst e
    cases ro
    refine ⟨fun _ => 0, c1, .nil, fun a => ?_, fun Z' H' outs cb' ho hr ht hz => ⟨c1, ?_, fun a => by omega⟩⟩
    · cases h2; simp
    · have : putOuts σ [] outs = σ := by cases outs <;> simp [putOuts]
      rw [this]
      exact h1.keep hr ht hz
  | .val d :: rs, _, σ, ds, c1, c2, l, h1, h2, ro, e, hl, hn => by
    cases ro with
    | val ro =>
      rename_i u us
      unfold rdAll at e
      cases e2 : rdAll σ rs with
      | none => simp [rd, e2] at e
      | some ds2 =>
        simp [rd, e2] at e
        subst e
        obtain ⟨b1, b2, k1, k2, q⟩ := Own.uncons (d := d) (ds := rs.map RV.own) h2
        obtain ⟨cb, r, k3, q2, f⟩ := gather h1 k2 ro e2 (show heads rs = some l from hl) hn
        refine ⟨_, r, k1.cons k3, fun a => by have := q a; have := q2 a; (try dsimp only); omega, fun Z' H' outs cb' ho hr ht hz => ?_⟩
        cases outs with
        | nil => have := ho.len; simp at this
        | cons o outs =>
          obtain ⟨b3, b4, k4, k5, q3⟩ := ho.uncons
          obtain ⟨c', k6, q4⟩ := f Z' H' outs b4 k5 hr ht hz
          exact ⟨c', k6, fun a => by have := q3 a; have := q4 a; omega⟩
  | .ref [] :: rs, _, σ, ds, c1, c2, l, h1, h2, ro, e, hl, hn => by cases hl
  | .ref (j :: q :: p) :: rs, _, σ, ds, c1, c2, l, h1, h2, ro, e, hl, hn => by cases hl
  | .ref [i] :: rs, _, σ, ds, c1, c2, l, h1, h2, ro, e, hl, hn => by
    cases ro with
    | ref hi ro =>
      rename_i u us
      unfold rdAll at e
      have e : (nb σ[i]?).bind (fun d => (rdAll σ rs).map (d :: ·)) = some ds := e
      cases e0 : nb σ[i]? with
      | none => rw [e0] at e; cases e
      | some d =>
        obtain ⟨e1, _⟩ := nb_some e0
        cases e2 : rdAll σ rs with
        | none => rw [e0, e2] at e; cases e
        | some ds2 =>
          rw [e0, e2] at e
          have e := Option.some.inj e
          subst e
          have hl : (heads rs).map (i :: ·) = some l := hl
          cases e3 : heads rs with
          | none => rw [e3] at hl; cases hl
          | some l2 =>
            rw [e3] at hl
            have hl := Option.some.inj hl
            subst hl
            simp only [nodupB, Bool.and_eq_true, Bool.not_eq_true', List.contains_eq_mem, decide_eq_false_iff_not] at hn
            obtain ⟨b1, b2, k1, k2, q⟩ := Own.uncons (d := D.bot) (ds := rs.map RV.own) h2
            have z1 : ∀ a, b1 a = 0 := by
              cases k1 with
              | bot k => cases k; exact fun a => rfl
            obtain ⟨v, b, r0, g1, g2, g3, g4⟩ := h1.at e1
            rw [hi] at g1
            have g1 := Option.some.inj g1
            subst g1
            have h1' := g4 Z H .bot (fun _ => 0) (.bot .nil) (fun _ _ => rfl) (fun _ _ e _ => e) (fun _ z => z)
            obtain ⟨cb, r, k3, q2, f⟩ := gather h1' k2 ro (by rw [rdAll_set e3 hn.1]; exact e2) e3 hn.2
            refine ⟨_, r, g2.cons k3, fun a => by have := q a; have := q2 a; have := z1 a; have := g3 a; (try dsimp only at *); omega, fun Z' H' outs cb' ho hr ht hz => ?_⟩
            cases outs with
            | nil => have := ho.len; simp at this
            | cons o outs =>
              obtain ⟨b3, b4, k4, k5, q3⟩ := ho.uncons
              obtain ⟨c', k6, q4⟩ := f Z' H' outs b4 k5 hr ht hz
              have hlt : i < σ.length := (List.getElem?_eq_some_iff.mp e1).1
              have e5 : (putOuts (σ.set i .bot) rs outs)[i]? = some .bot := by
                rw [putOuts_get e3 hn.1, List.getElem?_set_self hlt]
              obtain ⟨v2, b5, r5, m1, m2, m3, m4⟩ := k6.at e5
              rw [hi] at m1
              have m1 := Option.some.inj m1
              subst m1
              have h9 := m4 Z' H' o b3 k4 (fun _ _ => rfl) (fun _ _ e _ => e) (fun _ z => z)
              have e6 : (putOuts (σ.set i .bot) rs outs).set i o = putOuts σ (.ref [i] :: rs) (o :: outs) := by
                show _ = putOuts (σ.set i o) rs outs
                rw [putOuts_set e3 hn.1, putOuts_set e3 hn.1, List.set_set]
              rw [e6] at h9
              exact ⟨_, h9, fun a => by have := q3 a; have := q4 a; have := m3 a; (try dsimp only at *); omega⟩
end

/-- behind a call -/
theorem Rel.call {N : Ent} {Z Z' : Addr → Prop} {H H' : Hp} {vs us vs' : List V} {ds outs ds' : List D} {c cb r cb' c' : Cnt} {v : V} {d : D} (R : Rel N Z H vs ds c) (hc : ∀ a, c a = cb a + r a)
    (C : Rel ⟨N.K, Z, H, cb⟩ Z' H' (v :: us) (d :: outs) cb') (own' : Own N.K Z' H' vs' ds' c') (h' : ∀ a, c' a ≤ cb' a + r a) : Rel N Z' H' vs' ds' c' := by
  have rH : ∀ a, 0 < r a → H a ≠ none := fun a ha => R.own.isSome (by have := hc a; omega)
  have rb : ∀ a, 0 < r a → cb a = 0 := fun a ha => by have := hc a; have := R.uni a; omega
  have rb' : ∀ a, 0 < r a → cb' a = 0 := fun a ha => by
    cases q : cb' a with
    | zero => rfl
    | succ n =>
      have h1 : 0 < cb a := C.old a (rH a ha) (by omega)
      have h2 := rb a ha
      omega
  refine ⟨own', fun a => ?_, fun a ha => ?_, C.zl, fun a o e q => ?_, fun a e ha => ?_, fun a e => C.live a (R.live a e), fun a z => ?_, fun a z => C.z0 a (R.z0 a z)⟩
  · have h1 := h' a
    have h2 := C.uni a
    have h3 := R.uni a
    have h4 := hc a
    by_cases q : 0 < r a
    · have := rb' a q; omega
    · omega
  · have h1 := h' a
    by_cases q : 0 < r a
    · intro z
      rcases C.zs a z with z | z | z
      · exact R.fz a (by have := hc a; omega) z
      · have := rb a q; have z : 0 < cb a := z; omega
      · exact rH a q z
    · exact C.fz a (by omega)
  · have h1 : cb a = 0 := by
      cases q2 : cb a with
      | zero => rfl
      | succ n => have := R.old a (by rw [e]; exact fun z => by cases z) (by have := hc a; omega); omega
    exact C.keep a o (R.keep a o e q) h1
  · have h1 := h' a
    by_cases q : 0 < r a
    · exact R.old a e (by have := hc a; omega)
    · have h2 : 0 < cb a := C.old a (R.live a e) (by omega)
      exact R.old a e (by have := hc a; omega)
  · rcases C.zs a z with z | z | z
    · exact R.zs a z
    · have z : 0 < cb a := z
      by_cases q : N.H0 a = none
      · exact .inr (.inr q)
      · exact .inr (.inl (R.old a q (by have := hc a; omega)))
    · refine .inr (.inr ?_)
      cases q : N.H0 a with
      | none => rfl
      | some o => exact absurd z (R.live a (by rw [q]; exact fun z => by cases z))
/-- a call's entry -/
theorem Rel.enter {N : Ent} {Z : Addr → Prop} {H : Hp} {vs us : List V} {ds xs : List D} {c cb : Cnt} (R : Rel N Z H vs ds c) (h : Own N.K Z H us xs cb) (hc : ∀ a, cb a ≤ c a) : Rel ⟨N.K, Z, H, cb⟩ Z H us xs cb where
  own := h
  uni := fun a => Nat.le_trans (hc a) (R.uni a)
  fz := fun a ha => R.fz a (Nat.lt_of_lt_of_le ha (hc a))
  zl := R.zl
  keep := fun a o e _ => e
  old := fun a _ ha => ha
  live := fun a e => e
  zs := fun a z => .inl z
  z0 := fun a z => z
/-- what the rest needs behind a call -/
theorem Rel.rest {N : Ent} {Z Z' : Addr → Prop} {H H' : Hp} {vs us : List V} {ds outs : List D} {c cb r cb' : Cnt} {v : V} {d : D} (R : Rel N Z H vs ds c) (hc : ∀ a, c a = cb a + r a)
    (C : Rel ⟨N.K, Z, H, cb⟩ Z' H' (v :: us) (d :: outs) cb') : (∀ a, 0 < r a → H' a = H a) ∧ (∀ a o, H a = some o → Still Z a o → H' a = some o) ∧ ∀ a, Z a → Z' a := by
  refine ⟨fun a ha => ?_, fun a o e s => ?_, C.z0⟩
  · have h1 : 0 < c a := by have := hc a; omega
    cases q : H a with
    | none => exact absurd q (R.own.isSome h1)
    | some o => exact C.keep a o q (by have := hc a; have := R.uni a; show cb a = 0; omega)
  · refine C.keep a o e ?_
    show cb a = 0
    cases q : cb a with
    | zero => rfl
    | succ n =>
      have h1 : 0 < c a := by have := hc a; omega
      rcases s with s | s | s
      · exact (R.own.noStill h1 e (.inl s)).elim
      · exact (R.own.noStill h1 e (.inr (.inl s))).elim
      · exact absurd s (R.fz a h1)
end MP

set_option Elab.async false
set_option linter.all false
set_option maxRecDepth 100000
set_option maxHeartbeats 1000000
/-! Expressions: what the wp over trees says, the layer's reading asks. -/
namespace MP
open PySem PySem.Spec PyProof.Rows L2

def ov (o : Option V) : V := o.getD .non
structure Bd (σV : List (Option V)) (σ : List D) : Prop where
  len : σV.length = σ.length
  get : ∀ (i : Nat) (d : D), σ[i]? = some d → d ≠ .bot → ∃ v, σV[i]? = some (some v)
abbrev frm (σV : List (Option V)) : List V := σV.map ov
structure Pst (N : Ent) (σV : List (Option V)) (tvs : List V) (tds : List D) (qt : Bool) (σ : List D) (H : Hp) (r : RV) (σ' : List D) (v : V) (H' : Hp) (Z' : Addr → Prop) (c' : Cnt) : Prop where
  R : Rel N Z' H' (frm σV ++ (v :: tvs)) (σ' ++ (r.own :: tds)) c'
  ok : RVok σ' H' (frm σV) v r
  bd : Bd σV σ'
  qt : qt = true → σ' = σ ∧ Same H H'
structure PstT (N : Ent) (σV : List (Option V)) (tvs : List V) (tds : List D) (qt : Bool) (σ : List D) (H : Hp) (ds σ' : List D) (vs : List V) (H' : Hp) (Z' : Addr → Prop) (c' : Cnt) : Prop where
  R : Rel N Z' H' (frm σV ++ (vs ++ tvs)) (σ' ++ (ds ++ tds)) c'
  len : vs.length = ds.length
  bd : Bd σV σ'
  qt : qt = true → Same H H' ∧ ∀ i : Nat, σ'[i]? = σ[i]? ∨ σ'[i]? = some .bot
inductive RVL (σ : List D) (H : Hp) (fr : List V) : List V → List RV → Prop
  | nil : RVL σ H fr [] []
  | cons {v vs r rs} : RVok σ H fr v r → RVL σ H fr vs rs → RVL σ H fr (v :: vs) (r :: rs)
structure PstL (N : Ent) (σV : List (Option V)) (tvs : List V) (tds : List D) (qt : Bool) (n : Nat) (σ : List D) (H : Hp) (rs : List RV) (σ' : List D) (vs : List V) (H' : Hp) (Z' : Addr → Prop) (c' : Cnt) : Prop where
  R : Rel N Z' H' (frm σV ++ (vs ++ tvs)) (σ' ++ (rs.map RV.own ++ tds)) c'
  ok : RVL σ' H' (frm σV) vs rs
  ln : rs.length = n
  bd : Bd σV σ'
  qt : qt = true → σ' = σ ∧ Same H H'

section
variable (T : List FnS) (G : List D) (np : Nat) (K : W.Frag)
def tX (p : PX) : TE := fun σV H Q => ∃ (N : Ent) (Z : Addr → Prop) (σ tds : List D) (tvs : List V) (c : Cnt) (kk : RV → List D → Prop), N.K = K ∧ tvs.length = tds.length ∧ Rel N Z H (frm σV ++ tvs) (σ ++ tds) c ∧ Bd σV σ ∧ wpX T G np p σ kk noX ∧
  ∀ r σ' v H' Z' c', kk r σ' → Pst N σV tvs tds (quiet p) σ H r σ' v H' Z' c' → Q v H'
def tXs (p : PX) : TA := fun σV H Q => ∃ (N : Ent) (Z : Addr → Prop) (σ tds : List D) (tvs : List V) (c : Cnt) (kk : List RV → List D → Prop), N.K = K ∧ tvs.length = tds.length ∧ Rel N Z H (frm σV ++ tvs) (σ ++ tds) c ∧ Bd σV σ ∧ wpXs T G np p σ kk noX ∧
  ∀ rs σ' vs H' Z' c', kk rs σ' → PstL N σV tvs tds (quiet p) (lenX p) σ H rs σ' vs H' Z' c' → Q vs H'
def tTs (p : PX) : TA := fun σV H Q => ∃ (N : Ent) (Z : Addr → Prop) (σ tds : List D) (tvs : List V) (c : Cnt) (kk : List D → List D → Prop), N.K = K ∧ tvs.length = tds.length ∧ Rel N Z H (frm σV ++ tvs) (σ ++ tds) c ∧ Bd σV σ ∧ wpTs T G np p σ kk noX ∧
  ∀ ds σ' vs H' Z' c', kk ds σ' → PstT N σV tvs tds (quiet p) σ H ds σ' vs H' Z' c' → Q vs H'
end
theorem PE.imp {X : Cx} {e : Expr} {t t' : TE} (h : PE X e t) (hi : ∀ σ H Q, t' σ H Q → t σ H Q) : PE X e t' := ⟨fun pins s σ H Q I q => h.run pins s σ H Q I (hi _ _ _ q)⟩
theorem PT.imp {X : Cx} {e : Expr} {t t' : TT} (h : PT X e t) (hi : ∀ σ H Q, t' σ H Q → t σ H Q) : PT X e t' := ⟨fun pins s σ H Q I q => h.run pins s σ H Q I (hi _ _ _ q)⟩
theorem PW.imp {X : Cx} {e : Expr} {t t' : TT} (h : PW X e t) (hi : ∀ σ H Q, t' σ H Q → t σ H Q) : PW X e t' := ⟨fun w pins s σ H Q I q => h.run w pins s σ H Q I (hi _ _ _ q)⟩
theorem PA.imp {X : Cx} {e : List Expr} {t t' : TA} (h : PA X e t) (hi : ∀ σ H Q, t' σ H Q → t σ H Q) : PA X e t' := ⟨fun pos pins s σ H Q I q => h.run pos pins s σ H Q I (hi _ _ _ q)⟩

section
variable {T : List FnS} {G : List D} {np : Nat} {K : W.Frag} {N : Ent} {Z : Addr → Prop} {H : Hp} {σV : List (Option V)} {σ tds : List D} {tvs : List V} {c : Cnt} {Q : VK}
theorem Bd.fl (B : Bd σV σ) : (frm σV).length = σ.length := by unfold frm; rw [List.length_map, B.len]
/-- a step that changes nothing ends -/
theorem fin_of {qt : Bool} {σ0 : List D} {H0 : Hp} {kk : RV → List D → Prop} (R : Rel N Z H (frm σV ++ tvs) (σ ++ tds) c) (B : Bd σV σ) (hq : qt = true → σ = σ0 ∧ Same H0 H)
    (h : ∀ r σ' v H' Z' c', kk r σ' → Pst N σV tvs tds qt σ0 H0 r σ' v H' Z' c' → Q v H') : Fin N.K Z H (fun d => kk (.val d) σ) Q where
  im := fun d v k o => h (.val d) σ v H Z c k ⟨R.push0 B.fl o, trivial, B, hq⟩
  tup := fun us es p ob hd k o hp => h (.val (.tup es)) σ _ _ Z c k ⟨R.newTup hd B.fl hp o, trivial, B, fun q => ⟨(hq q).1, (hq q).2.trans (same_new hp)⟩⟩
  lst := fun us es p k o hp => h (.val (.lst es)) σ _ _ Z _ k ⟨R.newLst0 B.fl hp o, trivial, B, fun q => ⟨(hq q).1, (hq q).2.trans (same_new hp)⟩⟩
  dct := fun kvs es p k n o hp => h (.val (.dct (kvs.map (Prod.fst (α := Key) (β := V))) es)) σ _ _ Z _ k ⟨R.newDct0 B.fl hp n o, trivial, B, fun q => ⟨(hq q).1, (hq q).2.trans (same_new hp)⟩⟩
theorem own_val {r : RV} {e : D} (h : r = .val e) : r.own = e := by subst h; rfl

/-! ### names, constants -/
theorem tX_var {i : Nat} (h : tX T G np K (.var i) σV H Q) : tVar i σV H Q := by
  obtain ⟨N, Z, σ, tds, tvs, c, kk, e, lt, R, B, w, k⟩ := h
  unfold wpX at w
  cases e1 : σ[i]? with
  | none => rw [e1] at w; exact w.elim
  | some d =>
    rw [e1] at w
    have nb : d ≠ .bot := by
      rintro rfl
      exact w
    obtain ⟨v, ev⟩ := B.get i d e1 nb
    have ef : (frm σV)[i]? = some v := by unfold frm; rw [List.getElem?_map, ev]; rfl
    refine ⟨v, ev, ?_⟩
    unfold var1 at w
    cases hi : d.im with
    | true =>
      simp only [hi] at w
      obtain ⟨c1, c2, h1, h2, _⟩ := R.own.split2 B.fl
      obtain ⟨v', b', e2, o, _⟩ := h1.item e1
      rw [ef] at e2
      have e2 := Option.some.inj e2
      subst e2
      exact k (.val d) σ v H Z c w ⟨R.push0 B.fl (o.im1 hi), trivial, B, fun _ => ⟨rfl, .refl _⟩⟩
    | false =>
      simp only [hi] at w
      cases hm : d.mut with
      | false => simp only [hm] at w
      | true =>
        simp only [hm] at w
        exact k (.ref [i]) σ v H Z c w ⟨R.push0 B.fl (.bot .nil), ⟨ef, rfl⟩, B, fun _ => ⟨rfl, .refl _⟩⟩
theorem tX_cst {d : D} {v : V} (hv : ∀ Z H, Own K Z H [v] [d] fun _ => 0) (h : tX T G np K (.cst d) σV H Q) : tC v σV H Q := by
  obtain ⟨N, Z, σ, tds, tvs, c, kk, e, lt, R, B, w, k⟩ := h
  subst e
  exact k (.val d) σ v H Z c w ⟨R.push0 B.fl (hv Z H), trivial, B, fun _ => ⟨rfl, .refl _⟩⟩
theorem tX_glo {j : Nat} {d : D} {v : V} (hd : G[j]? = some d) (hv : ∀ Z H, Own K Z H [v] [d] fun _ => 0) (h : tX T G np K (.glo j) σV H Q) : tC v σV H Q := by
  obtain ⟨N, Z, σ, tds, tvs, c, kk, e, lt, R, B, w, k⟩ := h
  subst e
  unfold wpX at w
  rw [hd] at w
  exact k (.val d) σ v H Z c w ⟨R.push0 B.fl (hv Z H), trivial, B, fun _ => ⟨rfl, .refl _⟩⟩

/-! ### two operands -/
theorem Rel.peek2 {r1 r2 : RV} {d1 d2 : D} {v1 v2 : V} (R : Rel N Z H (frm σV ++ (v2 :: (v1 :: tvs))) (σ ++ (r2.own :: (r1.own :: tds))) c) (B : Bd σV σ) (ok1 : RVok σ H (frm σV) v1 r1) (ok2 : RVok σ H (frm σV) v2 r2)
    (e1 : rd σ r1 = some d1) (e2 : rd σ r2 = some d2) : ∃ b1 b2, Own N.K Z H [v1] [d1] b1 ∧ Own N.K Z H [v2] [d2] b2 := by
  obtain ⟨b2, h2, _⟩ := R.peek B.fl (fun e q => own_val q) ok2 e2
  obtain ⟨c', _, R'⟩ := R.drop1 B.fl
  obtain ⟨b1, h1, _⟩ := R'.peek B.fl (fun e q => own_val q) ok1 e1
  exact ⟨b1, b2, h1, h2⟩
theorem tX_two {S : D → D → KD → Prop} {r : R2} {a b p : PX}
    (hr : ∀ (Z : Addr → Prop) (H : Hp) (x y : V) (da db : D) (b1 b2 : Cnt) (k : KD) (Q : VK), Own K Z H [x] [da] b1 → Own K Z H [y] [db] b2 → S da db k → Fin K Z H k Q → r x y H Q)
    (hw : ∀ σ kk, wpX T G np p σ kk noX → wpX T G np a σ (fun ra σ1 => wpX T G np b σ1 (fun rb σ2 => match ok2 ra b with
      | true => (match rd σ2 ra, rd σ2 rb with
        | some da, some db => S da db fun d => kk (.val d) σ2
        | _, _ => False)
      | false => False) noX) noX) (hq : quiet p = (quiet a && quiet b)) (h : tX T G np K p σV H Q) : tX T G np K a σV H fun x H1 => tX T G np K b σV H1 fun y H2 => r x y H2 Q := by
  obtain ⟨N, Z, σ, tds, tvs, c, kk, e, lt, R, B, w, k⟩ := h
  refine ⟨N, Z, σ, tds, tvs, c, _, e, lt, R, B, hw σ kk w, fun ra σ1 v1 H1 Z1 c1 w1 P1 => ?_⟩
  refine ⟨N, Z1, σ1, ra.own :: tds, v1 :: tvs, c1, _, e, by simp [lt], P1.R, P1.bd, w1, fun rb σ2 v2 H2 Z2 c2 w2 P2 => ?_⟩
  cases q : ok2 ra b with
  | false => rw [q] at w2; exact w2.elim
  | true =>
    rw [q] at w2
    have k1 : RVok σ2 H2 (frm σV) v1 ra := P1.ok.later q P2.qt
    cases e1 : rd σ2 ra with
    | none => simp only [e1] at w2
    | some d1 =>
      cases e2 : rd σ2 rb with
      | none => simp only [e1, e2] at w2
      | some d2 =>
        simp only [e1, e2] at w2
        obtain ⟨b1, b2, o1, o2⟩ := P2.R.peek2 P2.bd k1 P2.ok e1 e2
        obtain ⟨c', _, R'⟩ := P2.R.drop1 P2.bd.fl
        obtain ⟨c'', _, R''⟩ := R'.drop1 P2.bd.fl
        subst e
        refine hr Z2 H2 v1 v2 d1 d2 b1 b2 _ Q o1 o2 w2 (fin_of R'' P2.bd (fun z => ?_) k)
        rw [hq, Bool.and_eq_true] at z
        obtain ⟨a1, a2⟩ := P1.qt z.1
        obtain ⟨a3, a4⟩ := P2.qt z.2
        exact ⟨a3.trans a1, a2.trans a4⟩
theorem tX_bin {op : Operator} {r : R2} {a b : PX} (hr : ∀ (Z : Addr → Prop) (H : Hp) (x y : V) (da db : D) (b1 b2 : Cnt) (k : KD) (Q : VK), Own K Z H [x] [da] b1 → Own K Z H [y] [db] b2 → binS op da db k → Fin K Z H k Q → r x y H Q)
    (h : tX T G np K (.bin op a b) σV H Q) : tOp r (tX T G np K a) (tX T G np K b) σV H Q := tX_two hr (fun σ kk w => w) rfl h
theorem tX_cmp {op : CmpOp} {r : R2} {a b : PX} (hr : ∀ (Z : Addr → Prop) (H : Hp) (x y : V) (da db : D) (b1 b2 : Cnt) (k : KD) (Q : VK), Own K Z H [x] [da] b1 → Own K Z H [y] [db] b2 → cmpS op da db k → Fin K Z H k Q → r x y H Q)
    (h : tX T G np K (.cmp op a b) σV H Q) : tOp r (tX T G np K a) (tX T G np K b) σV H Q := tX_two hr (fun σ kk w => w) rfl h

/-! ### one operand that is a bool -/
theorem bl_of {v : V} {t : Bool} {e : Cnt} {H : Hp} (R : Rel N Z H (frm σV ++ (v :: tvs)) (σ ++ (.bl t :: tds)) c) (B : Bd σV σ) : v = .bl t := by
  obtain ⟨b, o, _⟩ := Rel.peek (r := .val (.bl t)) (fr := frm σV) R B.fl (fun e q => by cases q; rfl) trivial rfl
  cases o; rfl
theorem int_of {v : V} {i : Int} {H : Hp} (R : Rel N Z H (frm σV ++ (v :: tvs)) (σ ++ (.int i :: tds)) c) (B : Bd σV σ) : v = .int i := by
  obtain ⟨b, o, _⟩ := Rel.peek (r := .val (.int i)) (fr := frm σV) R B.fl (fun e q => by cases q; rfl) trivial rfl
  cases o; rfl
theorem tX_not {a : PX} (h : tX T G np K (.not a) σV H Q) : tNotV (tX T G np K a) σV H Q := by
  obtain ⟨N, Z, σ, tds, tvs, c, kk, e, lt, R, B, w, k⟩ := h
  refine ⟨N, Z, σ, tds, tvs, c, _, e, lt, R, B, w, fun ra σ1 v1 H1 Z1 c1 w1 P1 => ?_⟩
  match ra, w1, P1 with
  | .val (.bl t), w1, P1 =>
    refine ⟨t, bl_of (e := c1) P1.R P1.bd, ?_⟩
    obtain ⟨c', _, R'⟩ := P1.R.drop1 P1.bd.fl
    exact k (.val (.bl !t)) σ1 _ H1 Z1 c' w1 ⟨R'.push0 P1.bd.fl (.bl .nil), trivial, P1.bd, P1.qt⟩
theorem tX_neg {a : PX} (h : tX T G np K (.neg a) σV H Q) : tUn (rU fun i => .int (-i)) (tX T G np K a) σV H Q := by
  obtain ⟨N, Z, σ, tds, tvs, c, kk, e, lt, R, B, w, k⟩ := h
  refine ⟨N, Z, σ, tds, tvs, c, _, e, lt, R, B, w, fun ra σ1 v1 H1 Z1 c1 w1 P1 => ?_⟩
  match ra, w1, P1 with
  | .val (.int t), w1, P1 =>
    refine ⟨t, int_of P1.R P1.bd, ?_⟩
    obtain ⟨c', _, R'⟩ := P1.R.drop1 P1.bd.fl
    exact k (.val (.int (-t))) σ1 _ H1 Z1 c' w1 ⟨R'.push0 P1.bd.fl (.int .nil), trivial, P1.bd, P1.qt⟩
theorem br_iff {b : Bool} {A B C D : Prop} (h : br b A B) (h1 : A → C) (h2 : B → D) : if b = true then C else D := by
  cases b with
  | true => rw [if_pos rfl]; exact h1 (h.1 rfl)
  | false => rw [if_neg Bool.false_ne_true]; exact h2 (h.2 rfl)
theorem qt2 {qa qb : Bool} {σ0 σ1 σ2 : List D} {H0 H1 H2 : Hp} (h1 : qa = true → σ1 = σ0 ∧ Same H0 H1) (h2 : qb = true → σ2 = σ1 ∧ Same H1 H2) : (qa && qb) = true → σ2 = σ0 ∧ Same H0 H2 := fun z => by
  rw [Bool.and_eq_true] at z
  obtain ⟨a1, a2⟩ := h1 z.1
  obtain ⟨a3, a4⟩ := h2 z.2
  exact ⟨a3.trans a1, a2.trans a4⟩
/-- a test: its answer and what follows -/
theorem tX_test {a : PX} {kk : RV → List D → Prop} {Rk : Bool → Hp → Prop} (R : Rel N Z H (frm σV ++ tvs) (σ ++ tds) c) (lt : tvs.length = tds.length) (B : Bd σV σ) (w : wpX T G np a σ kk noX)
    (h : ∀ t σ1 H1 Z1 c1, kk (.val (.bl t)) σ1 → Rel N Z1 H1 (frm σV ++ tvs) (σ1 ++ tds) c1 → Bd σV σ1 → (quiet a = true → σ1 = σ ∧ Same H H1) → Rk t H1)
    (hn : ∀ r σ1, kk r σ1 → ∃ t, r = .val (.bl t)) : tX T G np N.K a σV H fun x H1 => ∃ t, x = .bl t ∧ Rk t H1 := by
  refine ⟨N, Z, σ, tds, tvs, c, kk, rfl, lt, R, B, w, fun ra σ1 v1 H1 Z1 c1 w1 P1 => ?_⟩
  obtain ⟨t, rfl⟩ := hn ra σ1 w1
  obtain ⟨c', _, R'⟩ := P1.R.drop1 P1.bd.fl
  exact ⟨t, bl_of (e := c1) P1.R P1.bd, h t σ1 H1 Z1 c' w1 R' P1.bd P1.qt⟩
theorem tX_ite {cc a b : PX} (h : tX T G np K (.ite cc a b) σV H Q) : tIf (tTest (tX T G np K cc)) (tX T G np K a) (tX T G np K b) σV H Q := by
  obtain ⟨N, Z, σ, tds, tvs, c, kk, e, lt, R, B, w, k⟩ := h
  subst e
  refine tX_test R lt B w (fun t σ1 H1 Z1 c1 w1 R1 B1 q1 => br_iff w1 (fun w2 => ?_) fun w2 => ?_) fun r σ1 w1 => ?_
  · exact ⟨N, Z1, σ1, tds, tvs, c1, kk, rfl, lt, R1, B1, w2, fun r σ' v H' Z' c' w3 P => k r σ' v H' Z' c' w3 ⟨P.R, P.ok, P.bd, fun z => by
      simp only [quiet, Bool.and_eq_true] at z
      obtain ⟨a1, a2⟩ := q1 z.1.1
      obtain ⟨a3, a4⟩ := P.qt z.1.2
      exact ⟨a3.trans a1, a2.trans a4⟩⟩⟩
  · exact ⟨N, Z1, σ1, tds, tvs, c1, kk, rfl, lt, R1, B1, w2, fun r σ' v H' Z' c' w3 P => k r σ' v H' Z' c' w3 ⟨P.R, P.ok, P.bd, fun z => by
      simp only [quiet, Bool.and_eq_true] at z
      obtain ⟨a1, a2⟩ := q1 z.1.1
      obtain ⟨a3, a4⟩ := P.qt z.2
      exact ⟨a3.trans a1, a2.trans a4⟩⟩⟩
  · match r, w1 with
    | .val (.bl t), _ => exact ⟨t, rfl⟩
theorem tX_and {a b : PX} (h : tX T G np K (.and a b) σV H Q) : tAndV (tX T G np K a) (tX T G np K b) σV H Q := by
  obtain ⟨N, Z, σ, tds, tvs, c, kk, e, lt, R, B, w, k⟩ := h
  subst e
  refine tX_test R lt B w (fun t σ1 H1 Z1 c1 w1 R1 B1 q1 => br_iff w1 (fun w2 => ?_) fun w2 => ?_) fun r σ1 w1 => ?_
  · exact ⟨N, Z1, σ1, tds, tvs, c1, kk, rfl, lt, R1, B1, w2, fun r σ' v H' Z' c' w3 P => k r σ' v H' Z' c' w3 ⟨P.R, P.ok, P.bd, qt2 q1 P.qt⟩⟩
  · exact k (.val (.bl false)) σ1 _ H1 Z1 c1 w2 ⟨R1.push0 B1.fl (.bl .nil), trivial, B1, fun z => q1 (by simp only [quiet, Bool.and_eq_true] at z; exact z.1)⟩
  · match r, w1 with
    | .val (.bl t), _ => exact ⟨t, rfl⟩
theorem tX_or {a b : PX} (h : tX T G np K (.or a b) σV H Q) : tOrV (tX T G np K a) (tX T G np K b) σV H Q := by
  obtain ⟨N, Z, σ, tds, tvs, c, kk, e, lt, R, B, w, k⟩ := h
  subst e
  refine tX_test R lt B w (fun t σ1 H1 Z1 c1 w1 R1 B1 q1 => br_iff w1 (fun w2 => ?_) fun w2 => ?_) fun r σ1 w1 => ?_
  · exact k (.val (.bl true)) σ1 _ H1 Z1 c1 w2 ⟨R1.push0 B1.fl (.bl .nil), trivial, B1, fun z => q1 (by simp only [quiet, Bool.and_eq_true] at z; exact z.1)⟩
  · exact ⟨N, Z1, σ1, tds, tvs, c1, kk, rfl, lt, R1, B1, w2, fun r σ' v H' Z' c' w3 P => k r σ' v H' Z' c' w3 ⟨P.R, P.ok, P.bd, qt2 q1 P.qt⟩⟩
  · match r, w1 with
    | .val (.bl t), _ => exact ⟨t, rfl⟩

/-! ### lists of operands -/
theorem tXs_nil {Q' : List V → Hp → Prop} (h : tXs T G np K .nil σV H Q') : tNil σV H Q' := by
  obtain ⟨N, Z, σ, tds, tvs, c, kk, e, lt, R, B, w, k⟩ := h
  exact k [] σ [] H Z c w ⟨R, .nil, rfl, B, fun _ => ⟨rfl, .refl _⟩⟩
theorem tXs_cons {a b : PX} {Q' : List V → Hp → Prop} (h : tXs T G np K (.cons a b) σV H Q') : tCons (tX T G np K a) (tXs T G np K b) σV H Q' := by
  obtain ⟨N, Z, σ, tds, tvs, c, kk, e, lt, R, B, w, k⟩ := h
  refine ⟨N, Z, σ, tds, tvs, c, _, e, lt, R, B, w, fun ra σ1 v1 H1 Z1 c1 w1 P1 => ?_⟩
  cases q : ok2 ra b with
  | false => rw [q] at w1; exact w1.elim
  | true =>
    rw [q] at w1
    refine ⟨N, Z1, σ1, ra.own :: tds, v1 :: tvs, c1, _, e, by simp [lt], P1.R, P1.bd, w1, fun rs σ2 vs H2 Z2 c2 w2 P2 => ?_⟩
    have hl : vs.length = (rs.map RV.own).length := by
      have : ∀ {vs : List V} {rs : List RV}, RVL σ2 H2 (frm σV) vs rs → vs.length = rs.length := fun h => by induction h <;> simp_all
      rw [List.length_map]; exact this P2.ok
    have R3 := Rel.rot (A := frm σV) (B := vs) (C := [v1]) (E := tvs) (A' := σ2) (B' := rs.map RV.own) (C' := [ra.own]) (E' := tds) P2.R P2.bd.fl hl rfl
    exact k (ra :: rs) σ2 (v1 :: vs) H2 Z2 c2 w2 ⟨R3, .cons (P1.ok.later q P2.qt) P2.ok, by simp [lenX, P2.ln], P2.bd, qt2 P1.qt P2.qt⟩
theorem tTs_nil {Q' : List V → Hp → Prop} (h : tTs T G np K .nil σV H Q') : tNil σV H Q' := by
  obtain ⟨N, Z, σ, tds, tvs, c, kk, e, lt, R, B, w, k⟩ := h
  exact k [] σ [] H Z c w ⟨R, rfl, B, fun _ => ⟨.refl _, fun _ => .inl rfl⟩⟩
theorem Bd.set {i : Nat} {d : D} (B : Bd σV σ) (h : d = .bot ∨ ∃ v, σV[i]? = some (some v)) : Bd σV (σ.set i d) := by
  refine ⟨by rw [List.length_set]; exact B.len, fun j e q n => ?_⟩
  by_cases hj : j = i
  · subst hj
    by_cases hlt : j < σ.length
    · rw [List.getElem?_set_self hlt] at q
      have q := Option.some.inj q
      subst q
      exact h.resolve_left n
    · rw [List.getElem?_eq_none (by rw [List.length_set]; omega)] at q; cases q
  · rw [List.getElem?_set_ne (Ne.symm hj)] at q
    exact B.get j e q n
/-- a value is taken off its place -/
theorem take_ok {r : RV} {v : V} {kd : D → List D → Prop} (R : Rel N Z H (frm σV ++ (v :: tvs)) (σ ++ (r.own :: tds)) c) (ok : RVok σ H (frm σV) v r) (B : Bd σV σ) (w : take r σ kd) :
    ∃ d σ', kd d σ' ∧ Rel N Z H (frm σV ++ (v :: tvs)) (σ' ++ (d :: tds)) c ∧ Bd σV σ' ∧ ∀ i : Nat, σ'[i]? = σ[i]? ∨ σ'[i]? = some .bot := by
  match r, w, ok, R with
  | .val d, w, ok, R => exact ⟨d, σ, w, R, B, fun _ => .inl rfl⟩
  | .ref [i], w, ok, R =>
    unfold take at w
    cases e : σ[i]? with
    | none => simp only [e] at w
    | some d =>
      simp only [e] at w
      refine ⟨d, σ.set i .bot, w, ?_, B.set (.inl rfl), fun j => ?_⟩
      rotate_left
      · by_cases hj : i = j
        · subst hj; exact .inr (List.getElem?_set_self (List.getElem?_eq_some_iff.mp e).1)
        · exact .inl (List.getElem?_set_ne hj)
      obtain ⟨c1, c2, h1, h2, q1⟩ := R.own.split2 B.fl
      obtain ⟨c3, c4, h3, h4, q2⟩ := h2.uncons
      obtain ⟨v', b, rr, e1, o, q3, f⟩ := h1.at e
      have e2 : (frm σV)[i]? = some v := ok.1
      rw [e2] at e1
      have e1 := Option.some.inj e1
      subst e1
      have h5 := f Z H .bot (fun _ => 0) (.bot .nil) (fun _ _ => rfl) (fun _ _ e _ => e) fun _ z => z
      have z3 : ∀ a, c3 a = 0 := by
        cases h3 with
        | bot k => cases k; exact fun a => rfl
      refine R.re ((h5.app (o.cons h4)).cast (c' := c) fun a => ?_) fun _ => Nat.le_refl _
      have := q1 a; have := q2 a; have := q3 a; have := z3 a; (try dsimp only at *); omega
theorem tTs_cons {a b : PX} {Q' : List V → Hp → Prop} (h : tTs T G np K (.cons a b) σV H Q') : tCons (tX T G np K a) (tTs T G np K b) σV H Q' := by
  obtain ⟨N, Z, σ, tds, tvs, c, kk, e, lt, R, B, w, k⟩ := h
  refine ⟨N, Z, σ, tds, tvs, c, _, e, lt, R, B, w, fun ra σ1 v1 H1 Z1 c1 w1 P1 => ?_⟩
  obtain ⟨d, σ1', w1, R1, B1, mv⟩ := take_ok P1.R P1.ok P1.bd w1
  refine ⟨N, Z1, σ1', d :: tds, v1 :: tvs, c1, _, e, by simp [lt], R1, B1, w1, fun ds σ2 vs H2 Z2 c2 w2 P2 => ?_⟩
  have R3 := Rel.rot (A := frm σV) (B := vs) (C := [v1]) (E := tvs) (A' := σ2) (B' := ds) (C' := [d]) (E' := tds) P2.R P2.bd.fl P2.len rfl
  exact k (d :: ds) σ2 (v1 :: vs) H2 Z2 c2 w2 ⟨R3, by simp [P2.len], P2.bd, fun z => by
    simp only [quiet, Bool.and_eq_true] at z
    obtain ⟨a1, a2⟩ := P1.qt z.1
    obtain ⟨a3, a4⟩ := P2.qt z.2
    refine ⟨a2.trans a3, fun i => ?_⟩
    subst a1
    rcases a4 i with q | q
    · rw [q]; exact mv i
    · exact .inr q⟩

/-! ### tuples, lists -/
theorem quiet_tup {es : PX} (h : quiet (.tup es) = true) : es = .nil := by
  cases es <;> first | rfl | (cases h; done)
theorem quiet_lst {es : PX} (h : quiet (.lst es) = true) : es = .nil := by
  cases es <;> first | rfl | (cases h; done)
theorem tX_tup {es : PX} (h : tX T G np K (.tup es) σV H Q) : tTupP (tTs T G np K es) σV H Q := by
  obtain ⟨N, Z, σ, tds, tvs, c, kk, e, lt, R, B, w, k⟩ := h
  by_cases he : es = .nil
  · subst he
    refine ⟨N, Z, σ, tds, tvs, c, fun ds σ1 => ds = [] ∧ σ1 = σ ∧ _, e, lt, R, B, ⟨rfl, rfl, w⟩, fun ds σ1 vs H1 Z1 c1 w1 P1 => ?_⟩
    obtain ⟨rfl, rfl, ⟨hi, hz⟩, w1⟩ := w1
    refine ⟨by rw [P1.len, ← big_eq]; exact hz, fun p ob hd hp => ?_⟩
    obtain ⟨c2, c3, h1, h2, q1⟩ := P1.R.own.split2 P1.bd.fl
    obtain ⟨c4, c5, h3, h4, q2⟩ := h2.split2 P1.len
    obtain ⟨c', _, R'⟩ := P1.R.drop P1.bd.fl P1.len
    exact k (.val (.tup [])) σ1 _ _ Z1 c' w1 ⟨R'.newTup hd P1.bd.fl hp (h3.imAll hi), trivial, P1.bd, fun z => ⟨rfl, (P1.qt rfl).1.trans (same_new hp)⟩⟩
  · refine ⟨N, Z, σ, tds, tvs, c, _, e, lt, R, B, w, fun ds σ1 vs H1 Z1 c1 w1 P1 => ?_⟩
    obtain ⟨⟨hi, hz⟩, w1⟩ := w1
    refine ⟨by rw [P1.len, ← big_eq]; exact hz, fun p ob hd hp => ?_⟩
    obtain ⟨c2, c3, h1, h2, q1⟩ := P1.R.own.split2 P1.bd.fl
    obtain ⟨c4, c5, h3, h4, q2⟩ := h2.split2 P1.len
    obtain ⟨c', _, R'⟩ := P1.R.drop P1.bd.fl P1.len
    exact k (.val (.tup ds)) σ1 _ _ Z1 c' w1 ⟨R'.newTup hd P1.bd.fl hp (h3.imAll hi), trivial, P1.bd, fun z => absurd (quiet_tup z) he⟩
theorem tX_lst {es : PX} (h : tX T G np K (.lst es) σV H Q) : tLst (tTs T G np K es) σV H Q := by
  obtain ⟨N, Z, σ, tds, tvs, c, kk, e, lt, R, B, w, k⟩ := h
  by_cases he : es = .nil
  · subst he
    refine ⟨N, Z, σ, tds, tvs, c, fun ds σ1 => ds = [] ∧ σ1 = σ ∧ _, e, lt, R, B, ⟨rfl, rfl, w⟩, fun ds σ1 vs H1 Z1 c1 w1 P1 => ?_⟩
    obtain ⟨rfl, rfl, hz, w1⟩ := w1
    refine ⟨by rw [P1.len, ← big_eq]; exact hz, fun p hp => ?_⟩
    exact k (.val (.lst [])) σ1 _ _ Z1 _ w1 ⟨P1.R.newLst P1.bd.fl P1.len hp, trivial, P1.bd, fun z => ⟨rfl, (P1.qt rfl).1.trans (same_new hp)⟩⟩
  · refine ⟨N, Z, σ, tds, tvs, c, _, e, lt, R, B, w, fun ds σ1 vs H1 Z1 c1 w1 P1 => ?_⟩
    obtain ⟨hz, w1⟩ := w1
    refine ⟨by rw [P1.len, ← big_eq]; exact hz, fun p hp => ?_⟩
    exact k (.val (.lst ds)) σ1 _ _ Z1 _ w1 ⟨P1.R.newLst P1.bd.fl P1.len hp, trivial, P1.bd, fun z => absurd (quiet_lst z) he⟩
end
end MP

set_option Elab.async false
set_option linter.all false
set_option maxRecDepth 100000
set_option maxHeartbeats 1000000
/-! Subscripts, slices, calls. -/
namespace MP
open PySem PySem.Spec PyProof.Rows L2
section
variable {X : Cx}
def rIxDt : R2 := fun x y H Q => ∃ a v, x = .ref a ∧ DGet H a y (some v) ∧ Q v H
theorem ix_dict (hu : X.A.units + 1 < cLine) : IxR X rIxDt := by
  intro value slice pins s σ H x y v u Q I rx ry h hs
  obtain ⟨a, z, rfl, g, q⟩ := h
  cases rx
  exact tail_any (dict_typeIs I g) PySem.F.slot_dict_getitem.lookup (d_getItem hu I g ry fun w' s3 I3 rw' => ⟨z, H, I3, rw', q⟩) hs
def rIxA (K : W.Frag) : R2 := fun x y H Q => (rIxL K x y H Q ∨ rIxT K x y H Q) ∨ rIxDt x y H Q
theorem ix_all (hu : X.A.units + 1 < cLine) : IxR X (rIxA X.K) := IxR.or3 ix_list ix_tup (ix_dict hu)
end
section
variable {K : W.Frag} {Z : Addr → Prop} {H : Hp} {us : List V} {es : List D} {b : Cnt}
/-- the item that a subscript reads -/
theorem item_of {x y : V} {da di : D} {b1 b2 : Cnt} {n : Nat} {Q : VK} {e : D} (h1 : Own K Z H [x] [da] b1) (h2 : Own K Z H [y] [di] b2) (hx : ixOf da di = some n) (he : da.kids[n]? = some e) :
    ∃ p u o, x = .ref p ∧ H p = o ∧ (∀ o', o = some o' → (kidsV o')[n]? = some u ∨ True) ∧ (∃ b', Own K Z H [u] [e] b' ∧ ∀ a, b' a ≤ b1 a) ∧ (Q u H → rIxA K x y H Q) ∧ (da.mut = true → ∃ o', o = some o' ∧ (kidsV o')[n]? = some u) := by
  cases h1 with
  | bot _ => cases hx
  | non _ => cases hx
  | bl _ => cases hx
  | int _ => cases hx
  | str _ => cases hx
  | fd q hk hn es t =>
    cases t
    rename_i p kvs ks es0
    have hx : (keyOf di).bind (kix ks) = some n := hx
    cases ek : keyOf di with
    | none => rw [ek] at hx; cases hx
    | some key =>
      rw [ek] at hx
      have hx : kix ks key = some n := hx
      subst hk
      obtain ⟨u, b', e1, o, le⟩ := es.item (show _ = some e from he)
      obtain ⟨u', e2, e3⟩ := valV_kix hx
      rw [e1] at e2
      have e2 := Option.some.inj e2
      subst e2
      have hy := keyOf_v h2 ek
      subst hy
      refine ⟨p, u, _, rfl, rfl, fun _ _ => .inr trivial, ⟨b', o, fun a => by have := le a; (try dsimp only); omega⟩, fun q' => .inr ⟨p, u, rfl, ?_, q'⟩, fun m => by cases m⟩
      rw [← e3]; exact .inl ⟨kvs, key, q.rd, rfl, rfl⟩
  | pr _ _ _ => exact absurd (show none = some n from hx) (by simp)
  | tup q es t =>
    cases t
    rename_i p us es0
    cases di <;> first | (exact absurd (show none = some n from hx) (by simp)) | skip
    cases h2
    obtain ⟨u, b', e1, o, le⟩ := es.item (show _ = some e from he)
    rename_i i _
    have hx : ixN _ i = some n := hx
    rw [← es.len] at hx
    refine ⟨p, u, _, rfl, rfl, fun _ _ => .inr trivial, ⟨b', o, fun a => by have := le a; omega⟩, fun q' => .inl (.inr ⟨p, us, i, u, rfl, rfl, q.seq, ?_, q'⟩), fun m => by cases m⟩
    unfold atI; rw [hx]; exact e1
  | fl q es t =>
    cases t
    rename_i p us es0
    cases di <;> first | (exact absurd (show none = some n from hx) (by simp)) | skip
    cases h2
    obtain ⟨u, b', e1, o, le⟩ := es.item (show _ = some e from he)
    rename_i i _
    have hx : ixN _ i = some n := hx
    rw [← es.len] at hx
    refine ⟨p, u, _, rfl, rfl, fun _ _ => .inr trivial, ⟨b', o, fun a => by have := le a; omega⟩, fun q' => .inl (.inl ⟨p, us, i, u, rfl, rfl, q.seq, ?_, q'⟩), fun m => by cases m⟩
    unfold atI; rw [hx]; exact e1
  | lst q es t =>
    cases t
    rename_i p us es0 bb
    cases di <;> first | (exact absurd (show none = some n from hx) (by simp)) | skip
    cases h2
    obtain ⟨u, b', e1, o, le⟩ := es.item (show _ = some e from he)
    rename_i i _
    have hx : ixN _ i = some n := hx
    rw [← es.len] at hx
    refine ⟨p, u, _, rfl, rfl, fun _ _ => .inr trivial, ⟨b', o, fun a => by have := le a; (try dsimp only); omega⟩, fun q' => .inl (.inl ⟨p, us, i, u, rfl, rfl, .of q, ?_, q'⟩), fun m => ⟨_, q, e1⟩⟩
    unfold atI; rw [hx]; exact e1
  | dct q hk hn es t =>
    cases t
    rename_i p kvs ks es0 bb
    have hx : (keyOf di).bind (kix ks) = some n := hx
    cases ek : keyOf di with
    | none => rw [ek] at hx; cases hx
    | some key =>
      rw [ek] at hx
      have hx : kix ks key = some n := hx
      subst hk
      obtain ⟨u, b', e1, o, le⟩ := es.item (show _ = some e from he)
      obtain ⟨u', e2, e3⟩ := valV_kix hx
      rw [e1] at e2
      have e2 := Option.some.inj e2
      subst e2
      have hy := keyOf_v h2 ek
      subst hy
      refine ⟨p, u, _, rfl, rfl, fun _ _ => .inr trivial, ⟨b', o, fun a => by have := le a; (try dsimp only); omega⟩, fun q' => .inr ⟨p, u, rfl, ?_, q'⟩, fun m => ⟨_, q, e1⟩⟩
      rw [← e3]; exact DGet.k q
end

section
variable {T : List FnS} {G : List D} {np : Nat} {K : W.Frag} {N : Ent} {Z : Addr → Prop} {H : Hp} {σV : List (Option V)} {σ tds : List D} {tvs : List V} {c : Cnt} {Q : VK}
theorem wayM_snoc : ∀ {p : List Nat} {σ : List D} {d : D} {n : Nat}, wayM σ p = true → getP σ p = some d → d.mut = true → wayM σ (p ++ [n]) = true
  | [], _, _, _, _, e, _ => by simp [getP] at e
  | [i], σ, d, n, _, e, m => by
    have e : σ[i]? = some d := e
    show wayM σ [i, n] = true
    unfold wayM
    rw [e]
    simp [m, wayM]
  | i :: j :: p, σ, d, n, w, e, m => by
    unfold getP at e
    unfold wayM at w
    show wayM σ (i :: j :: (p ++ [n])) = true
    unfold wayM
    cases e1 : σ[i]? with
    | none => rw [e1] at e; cases e
    | some d0 =>
      rw [e1] at e w
      simp only [Bool.and_eq_true] at w ⊢
      exact ⟨w.1, wayM_snoc w.2 e m⟩
theorem locV_snoc : ∀ {p : List Nat} {vs : List V} {a : Addr} {o : HO} {u : V} {n : Nat}, locV H vs p = some (.ref a) → H a = some o → (kidsV o)[n]? = some u → locV H vs (p ++ [n]) = some u
  | [], _, _, _, _, _, e, _, _ => by simp [locV] at e
  | [i], vs, a, o, u, n, e, h, k => by
    have e : vs[i]? = some (.ref a) := e
    show locV H vs [i, n] = some u
    unfold locV
    rw [e]
    simp only []
    rw [h]
    exact k
  | i :: j :: p, vs, a, o, u, n, e, h, k => by
    show locV H vs (i :: j :: (p ++ [n])) = some u
    unfold locV at e ⊢
    cases e1 : vs[i]? with
    | none => rw [e1] at e; cases e
    | some x =>
      rw [e1] at e
      cases x <;> first
        | (cases e)
        | (rename_i a'
           simp only at e ⊢
           cases e2 : H a' with
           | none => rw [e2] at e; cases e
           | some o' =>
             rw [e2] at e
             exact locV_snoc e h k)
theorem tX_sub {a i : PX} (h : tX T G np K (.sub a i) σV H Q) : tOp (rIxA K) (tX T G np K a) (tX T G np K i) σV H Q := by
  obtain ⟨N, Z, σ, tds, tvs, c, kk, e, lt, R, B, w, k⟩ := h
  refine ⟨N, Z, σ, tds, tvs, c, _, e, lt, R, B, w, fun ra σ1 v1 H1 Z1 c1 w1 P1 => ?_⟩
  refine ⟨N, Z1, σ1, ra.own :: tds, v1 :: tvs, c1, _, e, by simp [lt], P1.R, P1.bd, w1, fun ri σ2 v2 H2 Z2 c2 w2 P2 => ?_⟩
  cases q : ok2 ra i with
  | false => simp only [q] at w2
  | true =>
    simp only [q] at w2
    have k1 : RVok σ2 H2 (frm σV) v1 ra := P1.ok.later q P2.qt
    cases e1 : rd σ2 ra with
    | none => simp only [e1] at w2
    | some da =>
      cases e2 : rd σ2 ri with
      | none => simp only [e1, e2] at w2
      | some di =>
        simp only [e1, e2] at w2
        cases e3 : ixOf da di with
        | none => simp only [e3] at w2
        | some n =>
          simp only [e3] at w2
          obtain ⟨b1, b2, o1, o2⟩ := P2.R.peek2 P2.bd k1 P2.ok e1 e2
          obtain ⟨c', _, R'⟩ := P2.R.drop1 P2.bd.fl
          obtain ⟨c'', _, R''⟩ := R'.drop1 P2.bd.fl
          unfold itemS at w2
          cases e4 : da.kids[n]? with
          | none => simp only [e4] at w2
          | some it =>
            simp only [e4] at w2
            subst e
            obtain ⟨p, u, o, hx, ho, _, ⟨b', ou, _⟩, fin, hm⟩ := item_of (Q := Q) o1 o2 e3 e4
            have qq : quiet (.sub a i) = true → σ2 = σ ∧ Same H H2 := qt2 P1.qt P2.qt
            refine fin ?_
            cases e5 : it.im with
            | true =>
              simp only [e5] at w2
              exact k (.val it) σ2 u H2 Z2 c'' w2 ⟨R''.push0 P2.bd.fl (ou.im1 e5), trivial, P2.bd, qq⟩
            | false =>
              simp only [e5] at w2
              match ra, w2, k1, e1 with
              | .ref pp, w2, k1, e1 =>
                simp only at w2
                cases e6 : it.mut && da.mut with
                | false => simp only [e6] at w2
                | true =>
                  simp only [e6] at w2
                  have e6 := Bool.and_eq_true_iff.mp e6
                  obtain ⟨o', h1, h2⟩ := hm e6.2
                  subst hx
                  refine k (.ref (pp ++ [n])) σ2 u H2 Z2 c'' w2 ⟨R''.push0 P2.bd.fl (.bot .nil), ⟨locV_snoc k1.1 (ho.trans h1) h2, wayM_snoc k1.2 (nb_some e1).1 e6.2⟩, P2.bd, qq⟩
/-! ### slices -/
def tPartX (T : List FnS) (G : List D) (np : Nat) (K : W.Frag) (p : PX) : TO := fun σV H Q => tX T G np K p σV H fun x H1 => isNonC p = true ∧ Q none H1 ∨ isNonC p = false ∧ ∃ i, x = .int i ∧ Q (some i) H1
theorem poImp {X : Cx} {e : Option Expr} {t t' : TO} (h : PO X e t) (hi : ∀ σ H Q, t' σ H Q → t σ H Q) : PO X e t' := ⟨fun pins s σ H Q I q => h.run pins s σ H Q I (hi _ _ _ q)⟩
theorem po_noneX {X : Cx} : PO X none (tPartX T G np X.K (.cst .non)) := poImp po_none fun σ H Q h => by
  have h2 := tX_cst (v := .non) (fun Z H => .non .nil) h
  rcases h2 with ⟨_, q⟩ | ⟨e, _⟩
  · exact q
  · cases e
theorem po_someX {X : Cx} {e : Expr} {p : PX} (hp : isNonC p = false) (h : PE X e (tX T G np X.K p)) : PO X (some e) (tPartX T G np X.K p) := poImp (po_some h) fun σV H Q ⟨N, Z, σ, tds, tvs, c, kk, e, lt, R, B, w, k⟩ =>
  ⟨N, Z, σ, tds, tvs, c, kk, e, lt, R, B, w, fun r σ' v H' Z' c' w' P => by
    rcases k r σ' v H' Z' c' w' P with ⟨q, _⟩ | ⟨_, q⟩
    · rw [hp] at q; cases q
    · exact q⟩
theorem optP_non {p : PX} {r : RV} (h : isNonC p = true) : optP p r = some none := by
  unfold isNonC at h
  split at h
  · rfl
  · cases h
theorem optP_int {p : PX} {r : RV} {o : Option Int} (h : isNonC p = false) (e : optP p r = some o) : ∃ i, r = .val (.int i) ∧ o = some i := by
  unfold optP at e
  split at e
  · cases h
  · split at e
    · exact ⟨_, rfl, (Option.some.inj e).symm⟩
    · cases e
theorem part_of {lo : PX} {rl : RV} {v2 : V} {l : Option Int} {Rr : Option Int → Hp → Prop} (el : optP lo rl = some l) (R : Rel N Z H (frm σV ++ (v2 :: tvs)) (σ ++ (rl.own :: tds)) c) (B : Bd σV σ) (hr : Rr l H) :
    isNonC lo = true ∧ Rr none H ∨ isNonC lo = false ∧ ∃ i, v2 = .int i ∧ Rr (some i) H := by
  cases m : isNonC lo with
  | true =>
    have := optP_non (r := rl) m
    rw [el] at this
    have this := Option.some.inj this
    subst this
    exact .inl ⟨rfl, hr⟩
  | false =>
    obtain ⟨i, er, eo⟩ := optP_int m el
    subst er eo
    exact .inr ⟨rfl, i, int_of R B, hr⟩
theorem tX_slc {a lo hi : PX} (h : tX T G np K (.slc a lo hi) σV H Q) : tSl (slR K) (tX T G np K a) (tPartX T G np K lo) (tPartX T G np K hi) σV H Q := by
  obtain ⟨N, Z, σ, tds, tvs, c, kk, e, lt, R, B, w, k⟩ := h
  refine ⟨N, Z, σ, tds, tvs, c, _, e, lt, R, B, w, fun ra σ1 v1 H1 Z1 c1 w1 P1 => ?_⟩
  refine ⟨N, Z1, σ1, ra.own :: tds, v1 :: tvs, c1, _, e, by simp [lt], P1.R, P1.bd, w1, fun rl σ2 v2 H2 Z2 c2 w2 P2 => ?_⟩
  cases el : optP lo rl with
  | none => simp only [el] at w2
  | some l =>
    simp only [el] at w2
    refine part_of (Rr := fun l H2 => tPartX T G np K hi σV H2 fun u H3 => slR K v1 l u H3 Q) el P2.R P2.bd ?_
    refine ⟨N, Z2, σ2, rl.own :: ra.own :: tds, v2 :: v1 :: tvs, c2, _, e, by simp [lt], P2.R, P2.bd, w2, fun rh σ3 v3 H3 Z3 c3 w3 P3 => ?_⟩
    cases eh : optP hi rh with
    | none => simp only [eh] at w3
    | some h =>
      simp only [eh] at w3
      refine part_of (Rr := fun u H3 => slR K v1 l u H3 Q) eh P3.R P3.bd ?_
      cases q : ok2 ra lo && ok2 ra hi with
      | false => simp only [q] at w3
      | true =>
        simp only [q] at w3
        have q := Bool.and_eq_true_iff.mp q
        have k1 : RVok σ3 H3 (frm σV) v1 ra := (P1.ok.later q.1 P2.qt).later q.2 P3.qt
        cases e1 : rd σ3 ra with
        | none => simp only [e1] at w3
        | some da =>
          simp only [e1] at w3
          obtain ⟨c', _, R1⟩ := P3.R.drop1 P3.bd.fl
          obtain ⟨c'', _, R2⟩ := R1.drop1 P3.bd.fl
          obtain ⟨b, o, _⟩ := R2.peek P3.bd.fl (fun e q => own_val q) k1 e1
          obtain ⟨c3, _, R3⟩ := R2.drop1 P3.bd.fl
          subst e
          refine slcS_ok o w3 (fin_of R3 P3.bd (fun z => ?_) k)
          simp only [quiet, Bool.and_eq_true] at z
          obtain ⟨a1, a2⟩ := P1.qt z.1.1
          obtain ⟨a3, a4⟩ := P2.qt z.1.2
          obtain ⟨a5, a6⟩ := P3.qt z.2
          exact ⟨a5.trans (a3.trans a1), a2.trans (a4.trans a6)⟩
theorem tX_rev {a : PX} (h : tX T G np K (.rev a) σV H Q) : tRevA K (tX T G np K a) σV H Q := by
  obtain ⟨N, Z, σ, tds, tvs, c, kk, e, lt, R, B, w, k⟩ := h
  refine ⟨N, Z, σ, tds, tvs, c, _, e, lt, R, B, w, fun ra σ1 v1 H1 Z1 c1 w1 P1 => ?_⟩
  cases e1 : rd σ1 ra with
  | none => simp only [e1] at w1
  | some da =>
    simp only [e1] at w1
    obtain ⟨b, o, _⟩ := P1.R.peek P1.bd.fl (fun e q => own_val q) P1.ok e1
    obtain ⟨c', _, R'⟩ := P1.R.drop1 P1.bd.fl
    subst e
    have F := fin_of (qt := quiet (.rev a)) R' P1.bd P1.qt k
    cases da <;> first | exact w1.elim | skip
    · cases o with
      | tup q es t => exact ⟨_, _, rfl, .inr ⟨q.seq, fun p ob hd hp => F.tup _ _ p ob hd w1 es.reverse hp⟩⟩
    · cases o with
      | lst q es t => exact ⟨_, _, rfl, .inl ⟨.of q, fun p hp => F.lst _ _ p w1.2 (es.imAll w1.1).reverse hp⟩⟩
    · cases o with
      | fl q es t => exact ⟨_, _, rfl, .inl ⟨q.seq, fun p hp => F.lst _ _ p w1 es.reverse hp⟩⟩
theorem tX_nile {ne : Bool} {a : PX} (h : tX T G np K (.nile ne a) σV H Q) : tOp (rNile K ne) (tX T G np K a) (tLst tNil) σV H Q := by
  obtain ⟨N, Z, σ, tds, tvs, c, kk, e, lt, R, B, w, k⟩ := h
  refine ⟨N, Z, σ, tds, tvs, c, _, e, lt, R, B, w, fun ra σ1 v H1 Z1 c1 w1 P1 => ?_⟩
  match ra, w1, P1 with
  | .val (.lst xs), w1, P1 =>
    obtain ⟨c1', c2, h1, h2, _⟩ := P1.R.own.split2 P1.bd.fl
    obtain ⟨c3, c4, h3, h4, _⟩ := h2.uncons
    obtain ⟨c', _, R'⟩ := P1.R.drop1 P1.bd.fl
    subst e
    cases h3 with
    | @lst p us _ _ _ _ _ q o t =>
      refine ⟨Nat.zero_le _, fun p0 hp0 => ?_⟩
      have R2 := R'.newLst0 P1.bd.fl hp0 .nil
      obtain ⟨c'', _, R3⟩ := R2.drop1 P1.bd.fl
      have F := fin_of (qt := false) (σ0 := σ) (H0 := H) R3 P1.bd (fun z => by cases z) k
      have ne0 : p ≠ p0 := fun z => by rw [z, hp0] at q; cases q
      refine ⟨p, p0, us, rfl, rfl, .of ((upd_ne ne0).trans q), .of upd_same, ?_⟩
      have e2 : us.isEmpty = xs.isEmpty := by
        have := o.len
        cases us <;> cases xs <;> first | rfl | (simp at this)
      have := F.bl w1
      rw [e2]
      exact this
/-! ### built-ins, isinstance -/
theorem RVL.oks {H : Hp} {fr : List V} : ∀ {vs : List V} {rs : List RV}, RVL σ H fr vs rs → ∀ {l : List Nat}, heads rs = some l → RVoks fr vs rs
  | _, _, .nil, _, _ => .nil
  | _, .val d :: rs, .cons h t, l, e => .val (RVL.oks t (show heads rs = some l from e))
  | _, .ref [] :: rs, .cons h t, l, e => by cases e
  | _, .ref (i :: j :: p) :: rs, .cons h t, l, e => by cases e
  | _, .ref [i] :: rs, .cons h t, l, e => by
    have e : (heads rs).map (i :: ·) = some l := e
    cases e2 : heads rs with
    | none => rw [e2] at e; cases e
    | some l2 => exact .ref h.1 (RVL.oks t e2)
theorem RVL.len {H : Hp} {fr : List V} {vs : List V} {rs : List RV} (h : RVL σ H fr vs rs) : vs.length = rs.length := by induction h <;> simp_all
/-- the operands' trees, looked at, when nothing is asked of their owners -/
theorem peeks {H : Hp} : ∀ {vs : List V} {rs : List RV} {ds : List D} {tvs : List V} {tds : List D} {c : Cnt}, Rel N Z H (frm σV ++ (vs ++ tvs)) (σ ++ (rs.map RV.own ++ tds)) c → Bd σV σ → RVL σ H (frm σV) vs rs → rdAll σ rs = some ds →
    ∃ b, Own N.K Z H vs ds b
  | [], _, ds, tvs, tds, c, R, B, .nil, e => by
    have e := Option.some.inj e
    subst e; exact ⟨_, .nil⟩
  | v :: vs, r :: rs, ds, tvs, tds, c, R, B, .cons h t, e => by
    unfold rdAll at e
    cases e1 : rd σ r with
    | none => rw [e1] at e; cases e
    | some d =>
      rw [e1] at e
      cases e2 : rdAll σ rs with
      | none => rw [e2] at e; cases e
      | some ds2 =>
        rw [e2] at e
        have e := Option.some.inj e
        subst e
        have R : Rel N Z H (frm σV ++ (v :: (vs ++ tvs))) (σ ++ (r.own :: (rs.map RV.own ++ tds))) c := R
        obtain ⟨b, o, _⟩ := R.peek B.fl (fun e q => own_val q) h e1
        obtain ⟨c', _, R'⟩ := R.drop1 B.fl
        obtain ⟨b2, o2⟩ := peeks R' B t e2
        exact ⟨_, o.cons o2⟩
theorem tX_bi {b : Bi} {es : PX} (h : tX T G np K (.bi b es) σV H Q) : tCB (rBi K b) (tXs T G np K es) σV H Q := by
  obtain ⟨N, Z, σ, tds, tvs, c, kk, e, lt, R, B, w, k⟩ := h
  refine ⟨N, Z, σ, tds, tvs, c, _, e, lt, R, B, w, fun rs σ1 vs H1 Z1 c1 w1 P1 => ?_⟩
  cases e1 : rdAll σ1 rs with
  | none => simp only [e1] at w1
  | some ds =>
    simp only [e1] at w1
    obtain ⟨b', o⟩ := peeks P1.R P1.bd P1.ok e1
    obtain ⟨c', _, R'⟩ := P1.R.drop P1.bd.fl (by rw [List.length_map]; exact P1.ok.len)
    subst e
    exact ⟨Z1, ds, b', _, o, w1, fin_of R' P1.bd P1.qt k⟩
theorem tX_isi {t : String} {a : PX} (h : tX T G np K (.isi t a) σV H Q) : tCB (rIsi K) (tCons (tX T G np K a) (tCons (tC (.ty t)) tNil)) σV H Q := by
  obtain ⟨N, Z, σ, tds, tvs, c, kk, e, lt, R, B, w, k⟩ := h
  refine ⟨N, Z, σ, tds, tvs, c, _, e, lt, R, B, w, fun ra σ1 v1 H1 Z1 c1 w1 P1 => ?_⟩
  cases e1 : rd σ1 ra with
  | none => simp only [e1] at w1
  | some da =>
    simp only [e1] at w1
    cases e2 : isiS t da with
    | none => simp only [e2] at w1
    | some b =>
      simp only [e2] at w1
      obtain ⟨b', o, _⟩ := P1.R.peek P1.bd.fl (fun e q => own_val q) P1.ok e1
      obtain ⟨c', _, R'⟩ := P1.R.drop1 P1.bd.fl
      subst e
      unfold isiS at e2
      cases e3 : tyName da with
      | none => rw [e3] at e2; cases e2
      | some n =>
        rw [e3] at e2
        exact ⟨v1, .ty t, .type n, .type t, b, rfl, .ty t, ty_of o e3, kit_ty e2, (fin_of (qt := quiet (.isi t a)) R' P1.bd P1.qt k).bl w1⟩
/-! ### calls of defs -/
theorem call_core {F : FnS} {rs : List RV} {ds : List D} {vs : List V} {kk : RV → List D → Prop} {qt : Bool} (hqt : qt = false) (R : Rel N Z H (frm σV ++ (vs ++ tvs)) (σ ++ (rs.map RV.own ++ tds)) c) (B : Bd σV σ) (ok : RVL σ H (frm σV) vs rs)
    (e1 : rdAll σ rs = some ds) (e2 : headsOk rs = true) (w : F ds (fun d outs => kk (.val d) (putOuts σ rs outs)) noX) {σ0 : List D} {H0 : Hp}
    (k : ∀ r σ' v H' Z' c', kk r σ' → Pst N σV tvs tds qt σ0 H0 r σ' v H' Z' c' → Q v H') : spOf N.K F vs H Q := by
  unfold headsOk at e2
  cases e3 : heads rs with
  | none => simp only [e3] at e2; cases e2
  | some l =>
    simp only [e3] at e2
    obtain ⟨c1, c2, h1, h2, q1⟩ := R.own.split2 B.fl
    obtain ⟨c3, c4, h3, h4, q2⟩ := h2.split2 (show vs.length = (rs.map RV.own).length by rw [List.length_map]; exact ok.len)
    obtain ⟨cb, r, g1, g2, g3⟩ := gather h1 h3 (ok.oks e3) e1 e3 e2
    have hc : ∀ a, c a = cb a + (r a + c4 a) := fun a => by have := q1 a; have := q2 a; have := g2 a; omega
    refine ⟨Z, ds, cb, _, R.enter g1 fun a => by have := hc a; omega, w, fun d outs v H' Z' c' w' C => ?_⟩
    obtain ⟨k1, k2, k3⟩ := R.rest hc C
    obtain ⟨c5, c6, h5, h6, q3⟩ := C.own.uncons
    obtain ⟨c7, h7, q4⟩ := g3 Z' H' outs c6 h6 (fun a ha => k1 a (by omega)) k2 k3
    have h8 := h4.keep (fun a ha => k1 a (by omega)) k2 k3
    have Rf := R.call hc C (h7.app (h5.cons h8)) fun a => by have := q3 a; have := q4 a; (try dsimp only); omega
    refine k (.val d) (putOuts σ rs outs) v H' Z' _ w' ⟨Rf, trivial, ⟨by rw [putOuts_len]; exact B.len, fun i d' hd nb => ?_⟩, fun z => by rw [hqt] at z; cases z⟩
    by_cases hi : i ∈ l
    · obtain ⟨d0, f1, f2⟩ := slot_in e3 e1 hi
      exact B.get i d0 f1 f2
    · rw [putOuts_get e3 hi] at hd
      exact B.get i d' hd nb
/-! ### sorted(set(xs)) -/
theorem tX_sst {X : Cx} {a : PX} (h : tX T G np X.K (.sst a) σV H Q) : tCB (rSortedS2 X) (tCons (tCB (rSetS X) (tCons (tX T G np X.K a) tNil)) tNil) σV H Q := by
  obtain ⟨N, Z, σ, tds, tvs, c, kk, e, lt, R, B, w, k⟩ := h
  refine ⟨N, Z, σ, tds, tvs, c, _, e, lt, R, B, w, fun ra σ1 v1 H1 Z1 c1 w1 P1 => ?_⟩
  cases e1 : rd σ1 ra with
  | none => simp only [e1] at w1
  | some da =>
    simp only [e1] at w1
    obtain ⟨b', o, _⟩ := P1.R.peek P1.bd.fl (fun e q => own_val q) P1.ok e1
    obtain ⟨c', _, R'⟩ := P1.R.drop1 P1.bd.fl
    refine ⟨Z1, da, b', fun d' => kk (.val d') σ1, by rw [← e]; exact o, w1, fun y H' hy => ⟨H1, y, _, rfl, hy, fun us es p hk ho hp => ?_⟩⟩
    have hx : ∃ a o, H1 a = none ∧ H' = upd H1 a o := by
      obtain ⟨a, _, ha, h | h⟩ := hy
      · obtain ⟨_, _, h, _⟩ := h; exact ⟨a, _, ha, h⟩
      · obtain ⟨_, _, _, h, _⟩ := h; exact ⟨a, _, ha, h⟩
    obtain ⟨a1, oo, ha, rfl⟩ := hx
    exact (fin_of (qt := quiet (.sst a)) (R'.ext ha) P1.bd (fun z => by cases z) k).lst us es p hk (by rw [e]; exact ho Z1) hp
/-! ### list(range(n)) -/
theorem own_up {H : Hp} : ∀ {l : List Nat}, Own K Z H (l.map fun i => V.int (0 + (i : Nat))) (l.map fun i => D.int (0 + (i : Nat))) fun _ => 0
  | [] => .nil
  | _ :: _ => .int own_up
theorem tX_lrg {tp : Bool} {a : PX} (h : tX T G np K (.lrg tp a) σV H Q) : (match tp with
    | true => tTupRgP (tRg1 (tX T G np K a))
    | false => tLstRg (tRg1 (tX T G np K a))) σV H Q := by
  obtain ⟨N, Z, σ, tds, tvs, c, kk, e, lt, R, B, w, k⟩ := h
  have go : ∀ (r : RV) (σ1 : List D) (v1 : V) (H1 : Hp) (Z1 : Addr → Prop) (c1 : Cnt), Pst N σV tvs tds (quiet a) σ H r σ1 v1 H1 Z1 c1 → (match r with
      | .val (.int n) => (-(2 ^ 62) ≤ n ∧ n ≤ 16777216) ∧ kk (.val (match tp with
        | true => .tup (intsUp 0 n.toNat)
        | false => .lst (intsUp 0 n.toNat))) σ1
      | _ => False) → ∃ n, v1 = .int n ∧ RgOk 0 n ∧ (tp = true → NewT Q H1 (rgV 0 n)) ∧ ∀ q, H1 q = none → tp = false → Q (.ref q) (upd H1 q (.lst (rgV 0 n))) := by
    intro r σ1 v1 H1 Z1 c1 P1 w1
    match r, w1, P1 with
    | .val (.int n), w1, P1 =>
      have e1 := int_of P1.R P1.bd
      subst e1
      obtain ⟨c', _, R'⟩ := P1.R.drop1 P1.bd.fl
      have eo : Own N.K Z1 H1 (rgV 0 n) (intsUp 0 n.toNat) fun _ => 0 := by
        unfold rgV intsUp
        rw [show (n - 0).toNat = n.toNat from by rw [Int.sub_zero]]
        exact own_up
      obtain ⟨⟨h1, h2⟩, w1⟩ := w1
      refine ⟨n, rfl, ⟨by decide, by decide, h1, by omega, by omega⟩, fun ht q ob hd hq => ?_, fun q hq ht => ?_⟩
      · subst ht
        exact k _ σ1 _ _ Z1 c' w1 ⟨R'.newTup hd P1.bd.fl hq eo, trivial, P1.bd, fun z => by cases z⟩
      · subst ht
        exact k _ σ1 _ _ Z1 _ w1 ⟨R'.newLst0 P1.bd.fl hq eo, trivial, P1.bd, fun z => by cases z⟩
  cases tp with
  | true =>
    refine ⟨N, Z, σ, tds, tvs, c, _, e, lt, R, B, w, fun r σ1 v1 H1 Z1 c1 w1 P1 => ?_⟩
    obtain ⟨n, rfl, g1, g2, _⟩ := go r σ1 v1 H1 Z1 c1 P1 w1
    exact ⟨n, rfl, g1, g2 rfl⟩
  | false =>
    refine ⟨N, Z, σ, tds, tvs, c, _, e, lt, R, B, w, fun r σ1 v1 H1 Z1 c1 w1 P1 => ?_⟩
    obtain ⟨n, rfl, g1, _, g2⟩ := go r σ1 v1 H1 Z1 c1 P1 w1
    exact ⟨n, rfl, g1, fun q hq => g2 q hq rfl⟩
end
end MP

set_option Elab.async false
set_option linter.all false
set_option maxRecDepth 100000
set_option maxHeartbeats 1000000
/-! Calls, methods of lists, chains, dict displays. -/
namespace MP
open PySem PySem.Spec PyProof.Rows L2
section
variable {T : List FnS} {G : List D} {np : Nat} {K : W.Frag} {N : Ent} {Z : Addr → Prop} {H : Hp} {σV : List (Option V)} {σ tds : List D} {tvs : List V} {c : Cnt} {Q : VK}
theorem tX_call {f : Nat} {es : PX} {F : FnS} (hF : T[f]? = some F) (h : tX T G np K (.call f es) σV H Q) : tCallG K F (tXs T G np K es) σV H Q := by
  obtain ⟨N, Z, σ, tds, tvs, c, kk, e, lt, R, B, w, k⟩ := h
  refine ⟨N, Z, σ, tds, tvs, c, _, e, lt, R, B, w, fun rs σ1 vs H1 Z1 c1 w1 P1 => ?_⟩
  simp only [hF] at w1
  cases e1 : rdAll σ1 rs with
  | none => simp only [e1] at w1
  | some ds =>
    cases e2 : headsOk rs with
    | false => simp only [e1, e2] at w1
    | true =>
      simp only [e1, e2] at w1
      subst e
      exact call_core rfl P1.R P1.bd P1.ok e1 e2 w1 k
theorem nodupB_mem : ∀ {l : List Nat} {i : Nat} {r : List Nat}, nodupB (i :: r) = true → i ∉ r ∧ nodupB r = true := fun {l i r} h => by
  simp only [nodupB, Bool.and_eq_true, Bool.not_eq_true', List.contains_eq_mem, decide_eq_false_iff_not] at h
  exact h
theorem permD_set {α : Type} {i : Nat} {x : α} : ∀ {perm : List Nat} {l : List α}, i ∉ perm → permD (l.set i x) perm = permD l perm
  | [], l, _ => rfl
  | j :: is, l, h => by
    simp only [List.mem_cons, not_or] at h
    unfold permD
    rw [List.getElem?_set_ne h.1, permD_set h.2]
theorem permOwn {H : Hp} : ∀ {perm : List Nat} {vs zs : List V} {xs ys : List D} {c : Cnt}, Own K Z H vs xs c → permD vs perm = some zs → permD xs perm = some ys → nodupB perm = true → ∃ c', Own K Z H zs ys c' ∧ ∀ a, c' a ≤ c a
  | [], vs, zs, xs, ys, c, h, e1, e2, _ => by
    have e1 := Option.some.inj e1
    have e2 := Option.some.inj e2
    subst e1 e2
    exact ⟨_, .nil, fun a => Nat.zero_le _⟩
  | i :: is, vs, zs, xs, ys, c, h, e1, e2, hn => by
    obtain ⟨n1, n2⟩ := nodupB_mem (l := []) hn
    unfold permD at e1 e2
    cases q1 : vs[i]? with
    | none => rw [q1] at e1; cases e1
    | some v =>
      cases q2 : xs[i]? with
      | none => rw [q2] at e2; cases e2
      | some d =>
        rw [q1] at e1; rw [q2] at e2
        cases q3 : permD vs is with
        | none => rw [q3] at e1; cases e1
        | some z2 =>
          cases q4 : permD xs is with
          | none => rw [q4] at e2; cases e2
          | some y2 =>
            rw [q3] at e1; rw [q4] at e2
            have e1 := Option.some.inj e1
            have e2 := Option.some.inj e2
            subst e1 e2
            obtain ⟨v', b, r, g1, g2, g3, g4⟩ := h.at q2
            rw [q1] at g1
            have g1 := Option.some.inj g1
            subst g1
            have h' := g4 Z H .bot (fun _ => 0) (.bot .nil) (fun _ _ => rfl) (fun _ _ e _ => e) fun _ z => z
            obtain ⟨c', o, le⟩ := permOwn h' q3 (by rw [permD_set n1]; exact q4) n2
            exact ⟨_, g2.cons o, fun a => by have := g3 a; have := le a; (try dsimp only at *); omega⟩
theorem RVL.perm {fr : List V} : ∀ {perm : List Nat} {vs : List V} {rs ps : List RV}, RVL σ H fr vs rs → permD rs perm = some ps → ∃ zs, permD vs perm = some zs ∧ RVL σ H fr zs ps
  | [], vs, rs, ps, h, e => by
    have e := Option.some.inj e
    subst e; exact ⟨[], rfl, .nil⟩
  | i :: is, vs, rs, ps, h, e => by
    unfold permD at e
    cases q : rs[i]? with
    | none => rw [q] at e; cases e
    | some r =>
      rw [q] at e
      cases q2 : permD rs is with
      | none => rw [q2] at e; cases e
      | some p2 =>
        rw [q2] at e
        have e := Option.some.inj e
        subst e
        have hg : ∀ {vs : List V} {rs : List RV} {i : Nat} {r : RV}, RVL σ H fr vs rs → rs[i]? = some r → ∃ v, vs[i]? = some v ∧ RVok σ H fr v r := fun {vs rs i r} h => by
          induction h generalizing i with
          | nil => intro e; simp at e
          | cons a t ih =>
            intro e
            cases i with
            | zero =>
              simp only [List.getElem?_cons_zero, Option.some.injEq] at e
              subst e; exact ⟨_, rfl, a⟩
            | succ i => exact ih (by simpa using e)
        obtain ⟨v, g1, g2⟩ := hg h q
        obtain ⟨z2, g3, g4⟩ := RVL.perm h q2
        exact ⟨v :: z2, by unfold permD; rw [g1, g3]; rfl, .cons g2 g4⟩
theorem permD_map {α β : Type} (f : α → β) : ∀ {perm : List Nat} {l p : List α}, permD l perm = some p → permD (l.map f) perm = some (p.map f)
  | [], l, p, e => by
    have e := Option.some.inj e
    subst e; rfl
  | i :: is, l, p, e => by
    unfold permD at e ⊢
    cases q : l[i]? with
    | none => rw [q] at e; cases e
    | some r =>
      rw [q] at e
      cases q2 : permD l is with
      | none => rw [q2] at e; cases e
      | some p2 =>
        rw [q2] at e
        have e := Option.some.inj e
        subst e
        rw [List.getElem?_map, q, permD_map f q2]; rfl
theorem tX_callK {f : Nat} {perm : List Nat} {es : PX} {F : FnS} (hF : T[f]? = some F) (hn : nodupB perm = true) (h : tX T G np K (.callK f perm es) σV H Q) : tCallGK K F (lenX es) perm (tXs T G np K es) σV H Q := by
  obtain ⟨N, Z, σ, tds, tvs, c, kk, e, lt, R, B, w, k⟩ := h
  refine ⟨N, Z, σ, tds, tvs, c, _, e, lt, R, B, w, fun rs σ1 vs H1 Z1 c1 w1 P1 => ?_⟩
  cases e0 : permD rs perm with
  | none => simp only [e0] at w1
  | some ps =>
    simp only [e0, hF] at w1
    cases e1 : rdAll σ1 ps with
    | none => simp only [e1] at w1
    | some ds =>
      cases e2 : headsOk ps with
      | false => simp only [e1, e2] at w1
      | true =>
        simp only [e1, e2] at w1
        subst e
        obtain ⟨zs, g1, g2⟩ := P1.ok.perm e0
        refine ⟨by rw [P1.ok.len]; exact P1.ln, zs, g1, ?_⟩
        obtain ⟨c1', c2', h1, h2, q1⟩ := P1.R.own.split2 P1.bd.fl
        obtain ⟨c3, c4, h3, h4, q2⟩ := h2.split2 (show vs.length = (rs.map RV.own).length by rw [List.length_map]; exact P1.ok.len)
        obtain ⟨c', o, le⟩ := permOwn h3 g1 (permD_map RV.own e0) hn
        have R' := P1.R.re (h1.app (o.app h4)) fun a => by have := q1 a; have := q2 a; have := le a; (try dsimp only); omega
        exact call_core rfl R' P1.bd g2 e1 e2 w1 k

/-! ### methods that change a list at a place -/
theorem getP_slot : ∀ {p : List Nat} {σ : List D} {d : D}, getP σ p = some d → d ≠ .bot → wayM σ p = true → ∃ i x, p.head? = some i ∧ σ[i]? = some x ∧ x ≠ .bot
  | [], _, _, e, _, _ => by simp [getP] at e
  | [i], σ, d, e, h, _ => ⟨i, d, rfl, e, h⟩
  | i :: j :: p, σ, d, e, h, m => by
    unfold wayM at m
    cases e1 : σ[i]? with
    | none => rw [e1] at m; cases m
    | some x =>
      rw [e1] at m
      refine ⟨i, x, rfl, e1, ?_⟩
      rintro rfl
      simp [D.mut] at m
theorem setP_other : ∀ {p : List Nat} {σ : List D} {d : D} {i j : Nat}, p.head? = some i → j ≠ i → (setP σ p d)[j]? = σ[j]?
  | [], _, _, _, _, e, _ => by simp at e
  | [i'], σ, d, i, j, e, h => by
    have e : i' = i := by simpa using e
    subst e
    show (σ.set i' d)[j]? = σ[j]?
    rw [List.getElem?_set_ne (Ne.symm h)]
  | i' :: k :: p, σ, d, i, j, e, h => by
    have e : i' = i := by simpa using e
    subst e
    unfold setP
    cases σ[i']? with
    | none => rfl
    | some x => simp only []; rw [List.getElem?_set_ne (Ne.symm h)]
theorem Bd.setP {p : List Nat} {d d' : D} (B : Bd σV σ) (e : getP σ p = some d) (hd : d ≠ .bot) (m : wayM σ p = true) : Bd σV (setP σ p d') := by
  obtain ⟨i, x, h1, h2, h3⟩ := getP_slot e hd m
  refine ⟨by rw [setP_len]; exact B.len, fun j y q n => ?_⟩
  by_cases hj : j = i
  · subst hj; exact B.get j x h2 h3
  · rw [setP_other h1 hj] at q
    exact B.get j y q n
theorem Own.updq {vs : List V} {ds : List D} {b : Cnt} {q : Addr} {o' : HO} {us : List V} (h : Own K Z H vs ds b) (hb : b q = 0) (hq : H q = some (.lst us)) (hz : ¬ Z q) : Own K Z (upd H q o') vs ds b :=
  h.keep (fun a ha => upd_ne fun e => by subst e; omega) (fun a o e s => by
    rw [upd_ne]
    · exact e
    · rintro rfl
      rw [hq] at e
      have e := Option.some.inj e
      subst e
      rcases s with ⟨_, z⟩ | ⟨_, _, z⟩ | z
      · cases z
      · cases z
      · exact hz z) fun _ z => z
theorem Rel.mutP {p : List Nat} {q : Addr} {es ds : List D} {us : List V} (R : Rel N Z H (frm σV ++ (us ++ (.ref q :: tvs))) (σ ++ (ds ++ (.bot :: tds))) c) (B : Bd σV σ) (hloc : locV H (frm σV) p = some (.ref q)) (hm : wayM σ p = true)
    (hd : getP σ p = some (.lst es)) (lus : us.length = ds.length) : ∃ (xs : List V) (bes bus : Cnt), H q = some (.lst xs) ∧ Own N.K Z H xs es bes ∧ Own N.K Z H us ds bus ∧
      (∀ o' vs' ds' b', Own N.K Z H vs' ds' b' → (∀ a, b' a ≤ bes a + bus a) → Own N.K Z (upd H q o') vs' ds' b') ∧
      ∀ (xs' : List V) (es' : List D) (b' br : Cnt) (v : V) (dr : D), Own N.K Z (upd H q (.lst xs')) xs' es' b' → Own N.K Z (upd H q (.lst xs')) [v] [dr] br → (∀ a, b' a + br a ≤ bes a + bus a) →
        ∃ c', Rel N Z (upd H q (.lst xs')) (frm σV ++ (v :: tvs)) (setP σ p (.lst es') ++ (dr :: tds)) c' := by
  obtain ⟨c1, c2, h1, h2, q1⟩ := R.own.split2 B.fl
  obtain ⟨c3, c4, h3, h4, q2⟩ := h2.split2 lus
  obtain ⟨c5, c6, h5, h6, q3⟩ := h4.uncons
  obtain ⟨v0, b, r, g1, g2, g3, g4⟩ := h1.focus hd hm
  rw [hloc] at g1
  have g1 := Option.some.inj g1
  subst g1
  cases g2 with
  | lst hq ho ht =>
    cases ht
    rename_i xs bes
    have un := R.uni
    have cq : 0 < c q := by have := q1 q; have := g3 q; simp only [one_self] at *; omega
    have nz : ¬ Z q := R.fz q cq
    refine ⟨xs, bes, c3, hq, ho, h3, fun o' vs' ds' b' hb le => hb.updq ?_ hq nz, fun xs' es' b' br v dr k1 k2 le => ?_⟩
    · have := un q; have := q1 q; have := q2 q; have := g3 q; have := le q; simp only [one_self] at *; omega
    · have keepq : ∀ {vs' : List V} {ds' : List D} {b0 : Cnt}, Own N.K Z H vs' ds' b0 → b0 q = 0 → Own N.K Z (upd H q (.lst xs')) vs' ds' b0 := fun h e => h.updq e hq nz
      have z6 : c6 q = 0 := by have := un q; have := q1 q; have := q2 q; have := q3 q; have := g3 q; simp only [one_self] at *; omega
      have h7 := g4 Z (upd H q (.lst xs')) (.lst es') _ (Own.lst upd_same k1 .nil) (fun a ha => upd_ne fun e => by
        subst e
        have := un a; have := q1 a; have := g3 a; simp only [one_self] at *; omega) (fun a o e s => by
        rw [upd_ne]
        · exact e
        · rintro rfl
          rw [hq] at e
          have e := Option.some.inj e
          subst e
          rcases s with ⟨_, z⟩ | ⟨_, _, z⟩ | z
          · cases z
          · cases z
          · exact nz z) fun _ z => z
      refine ⟨_, R.wr cq (h7.app (k2.cons (keepq h6 z6))) fun a => ?_⟩
      have := q1 a; have := q2 a; have := q3 a; have := g3 a; have := le a
      (try dsimp only at *); omega
def rMt : Mt → V → List V → Hp → VK → Prop
  | .append => rAppend | .pop => rPop | .popAt => rPopAt | .extend => rExtend
theorem tX_mth {m : Mt} {a es : PX} (h : tX T G np K (.mth m a es) σV H Q) : tBM K "list" (rMt m) (tX T G np K a) (tTs T G np K es) σV H Q := by
  obtain ⟨N, Z, σ, tds, tvs, c, kk, e, lt, R, B, w, k⟩ := h
  refine ⟨N, Z, σ, tds, tvs, c, _, e, lt, R, B, w, fun ra σ1 v1 H1 Z1 c1 w1 P1 => ?_⟩
  cases q0 : (quiet es || !deep ra) && isLst (rd σ1 ra) with
  | false => simp only [q0] at w1
  | true =>
    simp only [q0] at w1
    have q0 := Bool.and_eq_true_iff.mp q0
    refine ⟨?_, ?_⟩
    · cases e1 : rd σ1 ra with
      | none => rw [e1] at q0; cases q0.2
      | some da =>
        obtain ⟨b, o, _⟩ := P1.R.peek P1.bd.fl (fun e q => own_val q) P1.ok e1
        rw [e1] at q0
        have q1 := q0.2
        cases da <;> first | (exact absurd (show false = true from q1) (by simp)) | skip
        cases o with
        | lst q es t => exact .inl ⟨rfl, _, .of q⟩
    · refine ⟨N, Z1, σ1, ra.own :: tds, v1 :: tvs, c1, _, e, by simp [lt], P1.R, P1.bd, w1, fun ds σ2 us H2 Z2 c2 w2 P2 => ?_⟩
      match ra, w2, P1, P2, q0 with
      | .ref p, w2, P1, P2, q0 =>
        simp only at w2
        cases e1 : getP σ2 p with
        | none => simp only [e1] at w2
        | some d =>
          simp only [e1] at w2
          subst e
          -- the list's address
          have hb : ∃ q, v1 = .ref q := by
            cases e3 : rd σ1 (.ref p) with
            | none => rw [e3] at q0; cases q0.2
            | some da =>
              obtain ⟨b, o, _⟩ := P1.R.peek P1.bd.fl (fun e q => own_val q) P1.ok e3
              rw [e3] at q0
              have q1 := q0.2
              cases da <;> first | (exact absurd (show false = true from q1) (by simp)) | skip
              cases o with
              | lst q es t => exact ⟨_, rfl⟩
          obtain ⟨q, rfl⟩ := hb
          have hok : d ≠ .bot → locV H2 (frm σV) p = some (.ref q) ∧ wayM σ2 p = true := fun _ => by
            obtain ⟨a1, a2⟩ := P1.ok
            match p, a1, a2, q0 with
            | [], a1, a2, q0 => simp [locV] at a1
            | [i], a1, a2, q0 => exact ⟨a1, rfl⟩
            | i :: j :: p, a1, a2, q0 =>
              have qq : quiet es = true := by simpa [deep] using q0.1
              obtain ⟨a3, a4⟩ := P2.qt qq
              refine ⟨locV_same a3 a1, ?_⟩
              unfold getP at e1
              unfold wayM at a2 ⊢
              rcases a4 i with z | z
              · rw [z]; exact a2
              · rw [z] at e1; cases p <;> simp [D.kids, getP] at e1
          have fin : ∀ {xs' : List V} {es' : List D} {v : V} {dr : D} {c' : Cnt}, d ≠ .bot → kk (.val dr) (setP σ2 p (.lst es')) → Rel N Z2 (upd H2 q (.lst xs')) (frm σV ++ (v :: tvs)) (setP σ2 p (.lst es') ++ (dr :: tds)) c' → Q v (upd H2 q (.lst xs')) := fun hd w3 R3 =>
            k _ _ _ _ Z2 _ w3 ⟨R3, trivial, P2.bd.setP e1 hd (hok hd).2, fun z => by cases z⟩
          cases m with
          | append =>
            cases d <;> first | exact w2.elim | skip
            rename_i es0
            match ds, w2, P2 with
            | [d1], w2, P2 =>
              obtain ⟨l1, l2⟩ := hok (by simp)
              obtain ⟨hz, w2⟩ := w2
              obtain ⟨xs, bes, bus, k1, k2, k3, k4, k5⟩ := Rel.mutP P2.R P2.bd l1 l2 e1 P2.len
              obtain ⟨u, rfl⟩ := one_of k3
              refine ⟨q, xs, u, rfl, rfl, k1, by rw [k2.len, ← big_eq]; exact hz, ?_⟩
              obtain ⟨c', R3⟩ := k5 (xs ++ [u]) (es0 ++ [d1]) _ (fun _ => 0) .non .non ((k4 _ _ _ _ k2 fun a => by omega).app (k4 _ _ _ _ k3 fun a => by omega)) (.non .nil) fun a => by (try dsimp only); omega
              exact fin (by simp) w2 R3
          | pop =>
            cases d <;> first | exact w2.elim | skip
            rename_i es0
            match ds, w2, P2 with
            | [], w2, P2 =>
              obtain ⟨l1, l2⟩ := hok (by simp)
              unfold mtS at w2
              cases e2 : es0[es0.length - 1]? with
              | none => simp only [e2] at w2
              | some d1 =>
                simp only [e2] at w2
                obtain ⟨xs, bes, bus, k1, k2, k3, k4, k5⟩ := Rel.mutP P2.R P2.bd l1 l2 e1 P2.len
                have hus : us = [] := List.eq_nil_of_length_eq_zero P2.len
                subst hus
                have hl := k2.len
                have hne : es0 ≠ [] := by rintro rfl; simp at e2
                obtain ⟨bt, bl, o1, o2, q1⟩ := Own.split2 (vs := xs.dropLast) (vs' := xs.drop (xs.length - 1)) (ds := es0.dropLast) (ds' := es0.drop (es0.length - 1)) (c := bes) (by
                  rw [List.dropLast_eq_take, List.dropLast_eq_take, List.take_append_drop, List.take_append_drop]; exact k2) (by simp [hl])
                have hlast : es0.drop (es0.length - 1) = [d1] := by
                  have h1 : es0.length - 1 < es0.length := (List.getElem?_eq_some_iff.mp e2).1
                  rw [List.drop_eq_getElem_cons h1]
                  have : es0.length - 1 + 1 = es0.length := by omega
                  rw [this, List.drop_length]
                  rw [List.getElem?_eq_getElem h1] at e2
                  rw [Option.some.inj e2]
                rw [hlast] at o2
                obtain ⟨u, eu⟩ := one_of o2
                have hx : xs[xs.length - 1]? = some u := by
                  have : (xs.drop (xs.length - 1))[0]? = some u := by rw [eu]; rfl
                  rw [List.getElem?_drop] at this
                  simpa using this
                rw [eu] at o2
                refine ⟨q, xs, u, rfl, rfl, k1, hx, ?_⟩
                obtain ⟨c', R3⟩ := k5 xs.dropLast es0.dropLast bt bl u d1 (k4 _ _ _ _ o1 fun a => by have := q1 a; omega) (k4 _ _ _ _ o2 fun a => by have := q1 a; omega) fun a => by have := q1 a; omega
                exact fin (by simp) w2 R3
          | popAt =>
            cases d <;> first | exact w2.elim | skip
            rename_i es0
            match ds, w2, P2 with
            | [.int i], w2, P2 =>
              obtain ⟨l1, l2⟩ := hok (by simp)
              unfold mtS at w2
              cases e3 : ixN es0.length i with
              | none => simp only [e3] at w2
              | some n =>
                simp only [e3] at w2
                cases e2 : es0[n]? with
                | none => simp only [e2] at w2
                | some d1 =>
                  simp only [e2] at w2
                  obtain ⟨xs, bes, bus, k1, k2, k3, k4, k5⟩ := Rel.mutP P2.R P2.bd l1 l2 e1 P2.len
                  obtain ⟨u0, rfl⟩ := one_of k3
                  cases k3 with
                  | int k3 =>
                    have hl := k2.len
                    have hlt : n < es0.length := (List.getElem?_eq_some_iff.mp e2).1
                    obtain ⟨b1, b2, o1, o2, q1⟩ := Own.split2 (vs := xs.take n) (vs' := xs.drop n) (ds := es0.take n) (ds' := es0.drop n) (c := bes) (by
                      rw [List.take_append_drop, List.take_append_drop]; exact k2) (by simp [hl])
                    have hx2 : es0.drop n = d1 :: es0.drop (n + 1) := by
                      rw [List.drop_eq_getElem_cons hlt]
                      rw [List.getElem?_eq_getElem hlt] at e2
                      rw [Option.some.inj e2]
                    have hltx : n < xs.length := by omega
                    have hx3 : xs.drop n = xs[n] :: xs.drop (n + 1) := List.drop_eq_getElem_cons hltx
                    rw [hx2, hx3] at o2
                    obtain ⟨b3, b4, o3, o4, q2⟩ := o2.uncons
                    rw [← hl] at e3
                    obtain ⟨s1, s2, s3, s4⟩ := ixN_seq e3
                    obtain ⟨hz, w2⟩ := w2
                    have hz : es0.length ≤ 16777216 := hz
                    refine ⟨q, xs, i, n, xs[n], rfl, rfl, k1, by omega, by omega, s1, by rw [List.getElem?_eq_getElem hltx], ?_⟩
                    have ea : xs.eraseIdx n = xs.take n ++ xs.drop (n + 1) := List.eraseIdx_eq_take_drop_succ ..
                    have eb : es0.eraseIdx n = es0.take n ++ es0.drop (n + 1) := List.eraseIdx_eq_take_drop_succ ..
                    obtain ⟨c', R3⟩ := k5 (xs.eraseIdx n) (es0.eraseIdx n) _ b3 xs[n] d1 (by
                      rw [ea, eb]
                      exact (k4 _ _ _ _ o1 fun a => by have := q1 a; omega).app (k4 _ _ _ _ o4 fun a => by have := q1 a; have := q2 a; omega)) (k4 _ _ _ _ o3 fun a => by have := q1 a; have := q2 a; omega)
                      fun a => by have := q1 a; have := q2 a; (try dsimp only); omega
                    exact fin (by simp) w2 R3
          | extend =>
            cases d <;> first | exact w2.elim | skip
            rename_i es0
            match ds, w2, P2 with
            | [.lst ys], w2, P2 =>
              obtain ⟨l1, l2⟩ := hok (by simp)
              obtain ⟨⟨hi, hz⟩, w2⟩ := w2
              obtain ⟨xs, bes, bus, k1, k2, k3, k4, k5⟩ := Rel.mutP P2.R P2.bd l1 l2 e1 P2.len
              obtain ⟨u, rfl⟩ := one_of k3
              cases k3 with
              | @lst b us2 _ bb _ _ _ hq ho ht =>
                cases ht
                refine ⟨q, b, xs, us2, rfl, rfl, k1, hq, by rw [k2.len, ho.len, ← big_eq]; exact hz, ?_⟩
                have h0 := ho.imAll hi
                obtain ⟨c', R3⟩ := k5 (xs ++ us2) (es0 ++ ys) _ (fun _ => 0) .non .non ((k4 _ _ _ _ k2 fun a => by omega).app (k4 _ _ _ _ h0 fun a => by omega)) (.non .nil) fun a => by (try dsimp only); omega
                exact fin (by simp) w2 R3
end
end MP

set_option Elab.async false
set_option linter.all false
set_option maxRecDepth 100000
set_option maxHeartbeats 1000000
/-! What is walked, and where its items go. -/
namespace MP
open PySem PySem.Spec PyProof.Rows L2
/-! ### chains, dict displays -/
section
variable {T : List FnS} {G : List D} {np : Nat} {K : W.Frag} {N : Ent} {Z : Addr → Prop} {H : Hp} {σV : List (Option V)} {σ tds : List D} {tvs : List V} {c : Cnt} {Q : VK}
theorem tX_chn {o1 o2 : CmpOp} {r r' : R2} {a b cc : PX}
    (hr : ∀ (Z : Addr → Prop) (H : Hp) (x y : V) (da db : D) (b1 b2 : Cnt) (k : KD) (Q : VK), Own K Z H [x] [da] b1 → Own K Z H [y] [db] b2 → cmpS o1 da db k → Fin K Z H k Q → r x y H Q)
    (hr' : ∀ (Z : Addr → Prop) (H : Hp) (x y : V) (da db : D) (b1 b2 : Cnt) (k : KD) (Q : VK), Own K Z H [x] [da] b1 → Own K Z H [y] [db] b2 → cmpS o2 da db k → Fin K Z H k Q → r' x y H Q)
    (h : tX T G np K (.chn o1 o2 a b cc) σV H Q) : tChain r r' (tX T G np K a) (tX T G np K b) (tX T G np K cc) σV H Q := by
  obtain ⟨N, Z, σ, tds, tvs, c, kk, e, lt, R, B, w, k⟩ := h
  refine ⟨N, Z, σ, tds, tvs, c, _, e, lt, R, B, w, fun ra σ1 v1 H1 Z1 c1 w1 P1 => ?_⟩
  refine ⟨N, Z1, σ1, ra.own :: tds, v1 :: tvs, c1, _, e, by simp [lt], P1.R, P1.bd, w1, fun rb σ2 v2 H2 Z2 c2 w2 P2 => ?_⟩
  cases q : ok2 ra b && ok2 rb cc with
  | false => simp only [q] at w2
  | true =>
    simp only [q] at w2
    have q := Bool.and_eq_true_iff.mp q
    have k1 : RVok σ2 H2 (frm σV) v1 ra := P1.ok.later q.1 P2.qt
    cases e1 : rd σ2 ra with
    | none => simp only [e1] at w2
    | some d1 =>
      cases e2 : rd σ2 rb with
      | none => simp only [e1, e2] at w2
      | some d2 =>
        simp only [e1, e2] at w2
        obtain ⟨b1, b2, u1, u2⟩ := P2.R.peek2 P2.bd k1 P2.ok e1 e2
        subst e
        refine hr Z2 H2 v1 v2 d1 d2 b1 b2 _ _ u1 u2 w2 ⟨fun d v kd o => ?_, fun us es p ob hd kd _ _ => kd.elim, fun us es p kd _ _ => kd.elim, fun us es p kd _ _ _ => kd.elim⟩
        cases d <;> first | exact kd.elim | skip
        rename_i t
        cases o
        refine ⟨t, rfl, br_iff kd (fun w3 => ?_) fun w3 => ?_⟩
        · refine ⟨N, Z2, σ2, rb.own :: ra.own :: tds, v2 :: v1 :: tvs, c2, _, rfl, by simp [lt], P2.R, P2.bd, w3, fun rc σ3 v3 H3 Z3 c3 w4 P3 => ?_⟩
          have k2 : RVok σ3 H3 (frm σV) v2 rb := P2.ok.later q.2 P3.qt
          cases e3 : rd σ3 rb with
          | none => simp only [e3] at w4
          | some d3 =>
            cases e4 : rd σ3 rc with
            | none => simp only [e3, e4] at w4
            | some d4 =>
              simp only [e3, e4] at w4
              obtain ⟨b3, b4, u3, u4⟩ := P3.R.peek2 P3.bd k2 P3.ok e3 e4
              obtain ⟨c4, _, R4⟩ := P3.R.drop1 P3.bd.fl
              obtain ⟨c5, _, R5⟩ := R4.drop1 P3.bd.fl
              obtain ⟨c6, _, R6⟩ := R5.drop1 P3.bd.fl
              refine hr' Z3 H3 v2 v3 d3 d4 b3 b4 _ Q u3 u4 w4 (fin_of R6 P3.bd (fun z => ?_) k)
              simp only [quiet, Bool.and_eq_true] at z
              obtain ⟨a1, a2⟩ := P1.qt z.1.1
              obtain ⟨a3, a4⟩ := P2.qt z.1.2
              obtain ⟨a5, a6⟩ := P3.qt z.2
              exact ⟨a5.trans (a3.trans a1), a2.trans (a4.trans a6)⟩
        · obtain ⟨c4, _, R4⟩ := P2.R.drop1 P2.bd.fl
          obtain ⟨c5, _, R5⟩ := R4.drop1 P2.bd.fl
          exact k (.val (.bl false)) σ2 _ H2 Z2 c5 w3 ⟨R5.push0 P2.bd.fl (.bl .nil), trivial, P2.bd, fun z => by
            simp only [quiet, Bool.and_eq_true] at z
            obtain ⟨a1, a2⟩ := P1.qt z.1.1
            obtain ⟨a3, a4⟩ := P2.qt z.1.2
            exact ⟨a3.trans a1, a2.trans a4⟩⟩

/-- a display's pairs of readings -/
def prs (T : List FnS) (G : List D) (np : Nat) (K : W.Frag) : List Key → PX → List (TE × TE)
  | k :: ks, .cons e es => (tC (kV k), tX T G np K e) :: prs T G np K ks es
  | _, _ => []
def zipK : List Key → List V → List (V × V)
  | k :: ks, v :: vs => (kV k, v) :: zipK ks vs
  | _, _ => []
theorem tPairs_of : ∀ {ks : List Key} {es : PX} {σV : List (Option V)} {H : Hp} {R : List (V × V) → Hp → Prop}, (∃ n, ks.length = n ∧ lenX es = n) → tTs T G np K es σV H (fun us H2 => R (zipK ks us) H2) → isList es = true → tPairs (prs T G np K ks es) σV H R
  | [], .nil, σV, H, R, _, h, _ => tTs_nil h
  | [], .cons e es, σV, H, R, ⟨n, h1, h2⟩, _, _ => by simp [lenX] at h1 h2; omega
  | k :: ks, .nil, σV, H, R, ⟨n, h1, h2⟩, _, _ => by simp [lenX] at h1 h2; omega
  | k :: ks, .cons e es, σV, H, R, ⟨n, h1, h2⟩, h, hl => by
    have h := tTs_cons h
    show tX T G np K e σV H fun y H2 => tPairs (prs T G np K ks es) σV H2 fun ps H3 => R ((kV k, y) :: ps) H3
    obtain ⟨N, Z, σ, tds, tvs, c, kk, e, lt, Rr, B, w, kf⟩ := h
    exact ⟨N, Z, σ, tds, tvs, c, kk, e, lt, Rr, B, w, fun r σ' v H' Z' c' w' P => tPairs_of ⟨ks.length, rfl, by simp [lenX] at h1 h2; omega⟩ (kf r σ' v H' Z' c' w' P) hl⟩
theorem zipK_fst : ∀ {ks : List Key} {us : List V}, ks.length = us.length → zipK ks us = (ks.zip us).map (fun kv => (kV kv.1, kv.2))
  | [], us, _ => by cases us <;> rfl
  | k :: ks, [], h => by simp at h
  | k :: ks, u :: us, h => by
    show (kV k, u) :: zipK ks us = _
    rw [zipK_fst (by simpa using h)]; rfl
theorem tX_dct {ks : List Key} {es : PX} (hl : lenX es = ks.length) (hl2 : isList es = true) (h : tX T G np K (.dct ks es) σV H Q) : tDisp (prs T G np K ks es) σV H Q := by
  obtain ⟨N, Z, σ, tds, tvs, c, kk, e, lt, R, B, w, k⟩ := h
  intro p hp
  refine tPairs_of ⟨_, rfl, hl⟩ ?_ hl2
  subst e
  obtain ⟨c1, c2, h1, h2, q1⟩ := R.own.split2 B.fl
  have R1 : Rel N Z (upd H p (.dK [])) (frm σV ++ (.ref p :: tvs)) (σ ++ (.dct [] [] :: tds)) (fun a => c a + one p a) := by
    refine R.own1 hp (((h1.ext hp).app ((Own.dct (kvs := []) upd_same rfl List.nodup_nil .nil .nil).cons (h2.ext hp))).cast fun a => ?_) fun a => Nat.le_refl _
    have := q1 a; (try dsimp only); omega
  refine ⟨N, Z, σ, .dct [] [] :: tds, .ref p :: tvs, _, _, rfl, by simp [lt], R1, B, w, fun ds σ1 us H2 Z2 c2' w2 P2 => ?_⟩
  obtain ⟨⟨nd, l1, l15⟩, w2⟩ := w2
  obtain ⟨c3, c4, h3, h4, q2⟩ := P2.R.own.split2 P2.bd.fl
  obtain ⟨c5, c6, h5, h6, q3⟩ := h4.split2 P2.len
  obtain ⟨c7, c8, h7, h8, q4⟩ := h6.uncons
  cases h7 with
  | @dct _ kvs0 _ _ bb _ _ _ hq hk hn hx hy =>
    cases hy
    have : kvs0 = [] := by simpa using hk
    subst this
    cases hx
    have hlen : ks.length = us.length := by rw [P2.len]; exact l1
    refine ⟨hq, ks.zip us, zipK_fst hlen, by rw [List.length_zip]; omega, ?_⟩
    have hm : mergeK [] (ks.zip us) = ks.zip us := by
      rw [mergeK_nodup]
      · simp
      · simpa [List.map_fst_zip (by omega : ks.length ≤ us.length)] using nd
    rw [hm]
    have un := P2.R.uni p
    have cp : 0 < c2' p := by have := q2 p; have := q3 p; have := q4 p; simp only [one_self] at *; omega
    have nz : ¬ Z2 p := P2.R.fz p cp
    have up : ∀ {vs : List V} {ds : List D} {b : Cnt}, Own N.K Z2 H2 vs ds b → b p = 0 → Own N.K Z2 (upd H2 p (.dK (ks.zip us))) vs ds b := fun h hb =>
      h.keep (fun a ha => upd_ne fun e => by subst e; omega) (fun a o e s => by
        rw [upd_ne]
        · exact e
        · rintro rfl
          rw [hq] at e
          have e := Option.some.inj e
          subst e
          rcases s with ⟨_, z⟩ | ⟨_, _, z⟩ | z
          · cases z
          · cases z
          · exact nz z) fun _ z => z
    have zz : c3 p = 0 ∧ c5 p = 0 ∧ c8 p = 0 := by have := q2 p; have := q3 p; have := q4 p; simp only [one_self] at *; omega
    have h9 : Own N.K Z2 (upd H2 p (.dK (ks.zip us))) [.ref p] [.dct ks ds] _ := Own.dct upd_same (by rw [List.map_fst_zip (by omega)]) nd (by
      rw [List.map_snd_zip (by omega)]; exact up h5 zz.2.1) .nil
    refine k (.val (.dct ks ds)) σ1 _ _ Z2 _ w2 ⟨P2.R.wr cp ((up h3 zz.1).app (h9.cons (up h8 zz.2.2))) fun a => ?_, trivial, P2.bd, fun z => by cases z⟩
    have := q2 a; have := q3 a; have := q4 a; (try dsimp only at *); omega
end

/-! ### what is walked -/
section
variable {X : Cx} {tg : Expr}
def iAny (K : W.Frag) (tl : TE) : TI := fun σ H R => tl σ H fun x H1 => (∃ a, x = .ref a ∧ (∃ xs, SqL K H1 a xs) ∧ R (Itl K a) H1) ∨ (∃ a, x = .ref a ∧ (∃ xs, SqT K H1 a xs) ∧ R (Itt K a) H1)
theorem pi_any {l : Expr} {tl : TE} (hl : PE X l tl) : PI X tg l (iAny X.K tl) := by
  refine ⟨fun pins s σ H R I h => ?_⟩
  refine thn (hl.run pins s σ H _ I h) fun v s1 ⟨x, H1, I1, r1, q1⟩ => ?_
  rcases q1 with ⟨a, e, ⟨xs, hq⟩, q⟩ | ⟨a, e, ⟨xs, hq⟩, q⟩
  · subst e
    cases r1
    obtain ⟨its, rv, p, hz⟩ := I1.list hq
    refine wpAny_pyIter_list p.isList ?_
    refine ⟨s1.heap.objs.size, [s1.heap.objs.size], _, _, H1, rfl, I1.kept (t' := s1.toks) fun b o e => Heap.get?_push_of_some _ e, turn_list a _, ⟨_, Heap.get?_push_size _ rfl, rfl, rfl⟩, fun b hb => ?_, q⟩
    have e : b = s1.heap.objs.size := by simpa using hb
    subst e
    exact I1.fpOk (Nat.le_refl _) (I1.hok.fresh (Nat.le_refl _))
  · subst e
    cases r1
    obtain ⟨its, rv, p, hz⟩ := I1.tuple hq
    refine wpAny_pyIter_tuple (show s1.heap.IsTuple a its.toArray from p) ?_
    refine ⟨s1.heap.objs.size, [s1.heap.objs.size], _, _, H1, rfl, I1.kept (t' := s1.toks) fun b o e => Heap.get?_push_of_some _ e, turn_tuple a _, ⟨_, Heap.get?_push_size _ rfl, rfl, rfl⟩, fun b hb => ?_, q⟩
    have e : b = s1.heap.objs.size := by simpa using hb
    subst e
    exact I1.fpOk (Nat.le_refl _) (I1.hok.fresh (Nat.le_refl _))
end
def VS (hs : List Nat) (σ0 σ1 : List (Option V)) : Prop := ∀ i ∈ hs, σ1[i]? = σ0[i]?
section
variable {T : List FnS} {G : List D} {np : Nat} {K : W.Frag} {N : Ent} {Z : Addr → Prop} {H : Hp} {σV : List (Option V)} {σ tds : List D} {tvs : List V} {c : Cnt} {Q : VK}
/-- where the items lie, whatever stands above on the stack -/
def Src (N : Ent) (hs : List Nat) (σ0 : List (Option V)) (tvs : List V) (tds : List D) (st : List D → Prop) (S : Hp → List V → Prop) (ds : List D) : Prop :=
  ∀ (us : List V) (es : List D) (σV : List (Option V)) (σ : List D) (Z : Addr → Prop) (H : Hp) (c : Cnt), us.length = es.length → VS hs σ0 σV → Rel N Z H (frm σV ++ (us ++ tvs)) (σ ++ (es ++ tds)) c → Bd σV σ → st σ → ∃ xs b, S H xs ∧ Own N.K Z H xs ds b
structure Wk (N : Ent) (hs : List Nat) (σ0 : List (Option V)) (tvs : List V) (tds : List D) (J : It) (ds : List D) (st : List D → Prop) : Prop where
  stop : ∀ (us : List V) (es : List D) (σV : List (Option V)) (σ : List D) (Z : Addr → Prop) (H : Hp) (c : Cnt), us.length = es.length → VS hs σ0 σV → Rel N Z H (frm σV ++ (us ++ tvs)) (σ ++ (es ++ tds)) c → Bd σV σ → st σ → J.stop ds.length H
  item : ∀ (us : List V) (es : List D) (σV : List (Option V)) (σ : List D) (Z : Addr → Prop) (H : Hp) (c : Cnt) (i : Nat) (d : D), us.length = es.length → VS hs σ0 σV → Rel N Z H (frm σV ++ (us ++ tvs)) (σ ++ (es ++ tds)) c → Bd σV σ → st σ → ds[i]? = some d → d.im = true →
    J.go i H ∧ ∀ x H', J.yld i H x H' → Same H H' ∧ Rel N Z H' (frm σV ++ (x :: (us ++ tvs))) (σ ++ (d :: (es ++ tds))) c
theorem Own.item0 {us : List V} {es : List D} {b : Cnt} {i : Nat} {d : D} (h : Own K Z H us es b) (e : es[i]? = some d) (m : d.im = true) : ∃ v, us[i]? = some v ∧ Own K Z H [v] [d] fun _ => 0 := by
  obtain ⟨v, b', e1, o, _⟩ := h.item e
  exact ⟨v, e1, o.im1 m⟩
theorem wk_list {hs : List Nat} {σ0 : List (Option V)} {st : List D → Prop} {a : Addr} {ds : List D} (s : Src N hs σ0 tvs tds st (fun H xs => SqL N.K H a xs) ds) : Wk N hs σ0 tvs tds (Itl N.K a) ds st where
  stop := fun us es σV σ Z H c l v R B q => by
    obtain ⟨xs, b, h1, h2⟩ := s us es σV σ Z H c l v R B q
    exact ⟨xs, h1, by rw [h2.len]; exact Nat.le_refl _⟩
  item := fun us es σV σ Z H c i d l v R B q e m => by
    obtain ⟨xs, b, h1, h2⟩ := s us es σV σ Z H c l v R B q
    obtain ⟨x, e1, o⟩ := h2.item0 e m
    refine ⟨⟨xs, x, h1, e1⟩, fun y H' hy => ?_⟩
    obtain ⟨rfl, hy⟩ := hy
    have := hy xs h1
    rw [e1] at this
    have this := Option.some.inj this
    subst this
    exact ⟨.refl _, R.push0 B.fl o⟩
theorem wk_tup {hs : List Nat} {σ0 : List (Option V)} {st : List D → Prop} {a : Addr} {ds : List D} (s : Src N hs σ0 tvs tds st (fun H xs => SqT N.K H a xs) ds) : Wk N hs σ0 tvs tds (Itt N.K a) ds st where
  stop := fun us es σV σ Z H c l v R B q => by
    obtain ⟨xs, b, h1, h2⟩ := s us es σV σ Z H c l v R B q
    exact ⟨xs, h1, by rw [h2.len]; exact Nat.le_refl _⟩
  item := fun us es σV σ Z H c i d l v R B q e m => by
    obtain ⟨xs, b, h1, h2⟩ := s us es σV σ Z H c l v R B q
    obtain ⟨x, e1, o⟩ := h2.item0 e m
    refine ⟨⟨xs, x, h1, e1⟩, fun y H' hy => ?_⟩
    obtain ⟨rfl, hy⟩ := hy
    have := hy xs h1
    rw [e1] at this
    have this := Option.some.inj this
    subst this
    exact ⟨.refl _, R.push0 B.fl o⟩
theorem intsUp_len {i : Int} {n : Nat} : (intsUp i n).length = n := by simp [intsUp]
theorem intsUp_get {i : Int} {n j : Nat} {d : D} (h : (intsUp i n)[j]? = some d) : j < n ∧ d = .int (i + j) := by
  unfold intsUp at h
  rw [List.getElem?_map] at h
  by_cases hj : j < n
  · rw [List.getElem?_range hj] at h
    exact ⟨hj, (Option.some.inj h).symm⟩
  · rw [List.getElem?_eq_none (by simpa using hj)] at h
    cases h
theorem wk_rng {hs : List Nat} {σ0 : List (Option V)} {st : List D → Prop} {i : Int} {n : Nat} : Wk N hs σ0 tvs tds (Itr i n) (intsUp i n) st where
  stop := fun us es σV σ Z H c l v R B q => by rw [intsUp_len]; exact Nat.le_refl _
  item := fun us es σV σ Z H c j d l v R B q e m => by
    obtain ⟨hj, rfl⟩ := intsUp_get e
    refine ⟨hj, fun y H' hy => ?_⟩
    obtain ⟨rfl, rfl⟩ := hy
    exact ⟨.refl _, R.push0 B.fl (.int .nil)⟩
theorem stepUp_get {i l : Int} {n j : Nat} {d : D} (h : (stepUp i l n)[j]? = some d) : j < n ∧ d = .int (i + j * l) := by
  unfold stepUp at h
  rw [List.getElem?_map] at h
  by_cases hj : j < n
  · rw [List.getElem?_range hj] at h
    exact ⟨hj, (Option.some.inj h).symm⟩
  · rw [List.getElem?_eq_none (by simpa using hj)] at h
    cases h
theorem wk_step {hs : List Nat} {σ0 : List (Option V)} {st : List D → Prop} {i l : Int} {n : Nat} : Wk N hs σ0 tvs tds (Itc i l n) (stepUp i l n) st where
  stop := fun us es σV σ Z H c l v R B q => by rw [show (stepUp _ _ n).length = n by simp [stepUp]]; exact Nat.le_refl _
  item := fun us es σV σ Z H c j d l v R B q e m => by
    obtain ⟨hj, rfl⟩ := stepUp_get e
    refine ⟨hj, fun y H' hy => ?_⟩
    obtain ⟨rfl, rfl⟩ := hy
    exact ⟨.refl _, R.push0 B.fl (.int .nil)⟩
theorem enumD_len : ∀ {xs : List D} {n : Nat}, (enumD xs n).length = xs.length
  | [], _ => rfl
  | x :: r, n => by show (enumD r (n + 1)).length + 1 = _; rw [enumD_len]; rfl
theorem enumD_get : ∀ {xs : List D} {n j : Nat} {d : D}, (enumD xs n)[j]? = some d → ∃ x, xs[j]? = some x ∧ d = .pr [.int ((n + j : Nat) : Int), x]
  | [], n, j, d, h => by simp [enumD] at h
  | x :: r, n, 0, d, h => by
    have h : some (D.pr [.int n, x]) = some d := h
    have h := Option.some.inj h
    subst h; exact ⟨x, rfl, rfl⟩
  | x :: r, n, j + 1, d, h => by
    obtain ⟨y, e1, e2⟩ := enumD_get (xs := r) (n := n + 1) (j := j) (by simpa [enumD] using h)
    exact ⟨y, by simpa using e1, by rw [e2, show n + 1 + j = n + (j + 1) by omega]⟩
theorem imAll_get {xs : List D} {i : Nat} {d : D} (h : imAll xs = true) (e : xs[i]? = some d) : d.im = true := by
  unfold imAll at h
  rw [List.all_eq_true] at h
  exact h d (List.mem_of_getElem? e)
theorem wk_enum {hs : List Nat} {σ0 : List (Option V)} {st : List D → Prop} {a : Addr} {ds : List D} (hi : imAll ds = true) (s : Src N hs σ0 tvs tds st (fun H xs => SqL N.K H a xs) ds) : Wk N hs σ0 tvs tds (Ite N.K a) (enumD ds 0) st where
  stop := fun us es σV σ Z H c l v R B q => by
    obtain ⟨xs, b, h1, h2⟩ := s us es σV σ Z H c l v R B q
    exact ⟨xs, h1, by rw [h2.len, enumD_len]; exact Nat.le_refl _⟩
  item := fun us es σV σ Z H c i d l v R B q e m => by
    obtain ⟨xs, b, h1, h2⟩ := s us es σV σ Z H c l v R B q
    obtain ⟨dx, e0, rfl⟩ := enumD_get e
    obtain ⟨x, e1, o⟩ := h2.item0 e0 (imAll_get hi e0)
    refine ⟨⟨xs, x, h1, e1⟩, fun y H' hy => ?_⟩
    obtain ⟨t, x', rfl, hn, rfl, hy⟩ := hy
    have := hy xs h1
    rw [e1] at this
    have this := Option.some.inj this
    subst this
    refine ⟨same_new hn, R.newPr B.fl hn ?_⟩
    have e3 : ((0 + i : Nat) : Int) = (i : Int) := by omega
    rw [e3]
    exact (Own.cons (Own.int .nil) o).cast fun _ => rfl
theorem wk_enumT {hs : List Nat} {σ0 : List (Option V)} {st : List D → Prop} {a : Addr} {ds : List D} (hi : imAll ds = true) (s : Src N hs σ0 tvs tds st (fun H xs => SqT N.K H a xs) ds) : Wk N hs σ0 tvs tds (IteT N.K a) (enumD ds 0) st where
  stop := fun us es σV σ Z H c l v R B q => by
    obtain ⟨xs, b, h1, h2⟩ := s us es σV σ Z H c l v R B q
    exact ⟨xs, h1, by rw [h2.len, enumD_len]⟩
  item := fun us es σV σ Z H c i d l v R B q e m => by
    obtain ⟨xs, b, h1, h2⟩ := s us es σV σ Z H c l v R B q
    obtain ⟨dx, e0, rfl⟩ := enumD_get e
    obtain ⟨x, e1, o⟩ := h2.item0 e0 (imAll_get hi e0)
    refine ⟨⟨xs, x, h1, e1⟩, fun y H' hy => ?_⟩
    obtain ⟨t, x', rfl, hn, rfl, hy⟩ := hy
    have := hy xs h1
    rw [e1] at this
    have this := Option.some.inj this
    subst this
    refine ⟨same_new hn, R.newPr B.fl hn ?_⟩
    have e3 : ((0 + i : Nat) : Int) = (i : Int) := by omega
    rw [e3]
    exact (Own.cons (Own.int .nil) o).cast fun _ => rfl
theorem zipD_get : ∀ {xs ys : List D} {j : Nat} {d : D}, (zipD xs ys)[j]? = some d → ∃ x y, xs[j]? = some x ∧ ys[j]? = some y ∧ d = .pr [x, y]
  | [], _, j, d, h => by simp [zipD] at h
  | x :: r, [], j, d, h => by simp [zipD] at h
  | x :: r, y :: q, 0, d, h => by
    have h : some (D.pr [x, y]) = some d := h
    have h := Option.some.inj h
    subst h; exact ⟨x, y, rfl, rfl, rfl⟩
  | x :: r, y :: q, j + 1, d, h => by
    obtain ⟨a, b, e1, e2, e3⟩ := zipD_get (xs := r) (ys := q) (j := j) (by simpa [zipD] using h)
    exact ⟨a, b, by simpa using e1, by simpa using e2, e3⟩
theorem zipD_len : ∀ {xs ys : List D}, (zipD xs ys).length = min xs.length ys.length
  | [], _ => by simp [zipD]
  | x :: r, [] => by simp [zipD]
  | x :: r, y :: q => by show (zipD r q).length + 1 = _; rw [zipD_len]; simp
theorem wk_zip {hs : List Nat} {σ0 : List (Option V)} {st st' : List D → Prop} {a b : Addr} {ds es : List D} (hi : imAll ds = true) (hj : imAll es = true) (s : Src N hs σ0 tvs tds st (fun H xs => SqL N.K H a xs) ds) (s' : Src N hs σ0 tvs tds st' (fun H xs => SqL N.K H b xs) es) :
    Wk N hs σ0 tvs tds (Itz N.K a b) (zipD ds es) (fun σ => st σ ∧ st' σ) where
  stop := fun us es' σV σ Z H c l v R B q => by
    obtain ⟨xs, _, h1, h2⟩ := s us es' σV σ Z H c l v R B q.1
    obtain ⟨ys, _, h3, h4⟩ := s' us es' σV σ Z H c l v R B q.2
    refine ⟨xs, ys, h1, h3, ?_⟩
    rw [h2.len, h4.len, zipD_len]; omega
  item := fun us es' σV σ Z H c i d l v R B q e m => by
    obtain ⟨xs, _, h1, h2⟩ := s us es' σV σ Z H c l v R B q.1
    obtain ⟨ys, _, h3, h4⟩ := s' us es' σV σ Z H c l v R B q.2
    obtain ⟨dx, dy, e0, e0', rfl⟩ := zipD_get e
    obtain ⟨x, e1, o⟩ := h2.item0 e0 (imAll_get hi e0)
    obtain ⟨y, e2, o'⟩ := h4.item0 e0' (imAll_get hj e0')
    refine ⟨⟨xs, ys, x, y, h1, h3, e1, e2⟩, fun z H' hy => ?_⟩
    obtain ⟨t, x', y', rfl, hn, rfl, g1, g2⟩ := hy
    have g1 := g1 xs h1
    have g2 := g2 ys h3
    rw [e1] at g1
    rw [e2] at g2
    have g1 := Option.some.inj g1
    have g2 := Option.some.inj g2
    subst g1 g2
    exact ⟨same_new hn, R.newPr B.fl hn ((o.cons o').cast fun _ => rfl)⟩
theorem wk_zipT {hs : List Nat} {σ0 : List (Option V)} {st st' : List D → Prop} {a b : Addr} {ds es : List D} (hi : imAll ds = true) (hj : imAll es = true) (s : Src N hs σ0 tvs tds st (fun H xs => SqT N.K H a xs) ds) (s' : Src N hs σ0 tvs tds st' (fun H xs => SqT N.K H b xs) es) :
    Wk N hs σ0 tvs tds (RZ.ItzT N.K a b) (zipD ds es) (fun σ => st σ ∧ st' σ) where
  stop := fun us es' σV σ Z H c l v R B q => by
    obtain ⟨xs, _, h1, h2⟩ := s us es' σV σ Z H c l v R B q.1
    obtain ⟨ys, _, h3, h4⟩ := s' us es' σV σ Z H c l v R B q.2
    refine ⟨xs, ys, h1, h3, ?_⟩
    rw [h2.len, h4.len, zipD_len]; omega
  item := fun us es' σV σ Z H c i d l v R B q e m => by
    obtain ⟨xs, _, h1, h2⟩ := s us es' σV σ Z H c l v R B q.1
    obtain ⟨ys, _, h3, h4⟩ := s' us es' σV σ Z H c l v R B q.2
    obtain ⟨dx, dy, e0, e0', rfl⟩ := zipD_get e
    obtain ⟨x, e1, o⟩ := h2.item0 e0 (imAll_get hi e0)
    obtain ⟨y, e2, o'⟩ := h4.item0 e0' (imAll_get hj e0')
    refine ⟨⟨xs, ys, x, y, h1, h3, e1, e2⟩, fun z H' hy => ?_⟩
    obtain ⟨t, x', y', rfl, hn, rfl, g1, g2⟩ := hy
    have g1 := g1 xs h1
    have g2 := g2 ys h3
    rw [e1] at g1
    rw [e2] at g2
    have g1 := Option.some.inj g1
    have g2 := Option.some.inj g2
    subst g1 g2
    exact ⟨same_new hn, R.newPr B.fl hn ((o.cons o').cast fun _ => rfl)⟩
/-- an operand that is walked: what it is, and that it stays -/
inductive Kd where
  | l | t
def Kd.S (K : W.Frag) (a : Addr) : Kd → Hp → List V → Prop
  | .l => fun H xs => SqL K H a xs
  | .t => fun H xs => SqT K H a xs
/-- tv0: what lies between the operand's value and the ground -/
theorem walk_src {r : RV} {v : V} {kk : List D → (List D → Prop) → List Nat → Prop} (R : Rel N Z H (frm σV ++ (v :: tvs)) (σ ++ (r.own :: tds)) c) (lt : tvs.length = tds.length) (ok : RVok σ H (frm σV) v r) (B : Bd σV σ) (w : walkS r σ kk) :
    ∃ ds st hs a kd, kk ds st hs ∧ v = .ref a ∧ isSeq2 r σ = (match kd with | .l => 2 | .t => 1) ∧ Src N hs σV (v :: tvs) (r.own :: tds) st (Kd.S N.K a kd) ds ∧ ∃ xs, Kd.S N.K a kd H xs := by
  have top : ∀ {d : D} {us : List V} {es : List D} {σV : List (Option V)} {σ : List D} {Z : Addr → Prop} {H : Hp} {c : Cnt}, us.length = es.length → Rel N Z H (frm σV ++ (us ++ (v :: tvs))) (σ ++ (es ++ (d :: tds))) c → Bd σV σ → ∃ b, Own N.K Z H [v] [d] b := fun l R B => by
    obtain ⟨c1, c2, h1, h2, _⟩ := R.own.split2 B.fl
    obtain ⟨c3, c4, h3, h4, _⟩ := h2.split2 l
    obtain ⟨c5, c6, h5, h6, _⟩ := h4.uncons
    exact ⟨c5, h5⟩
  match r, w, ok, R with
  | .val (.tup xs), w, ok, R =>
    obtain ⟨b, o⟩ := top (us := []) (es := []) rfl R B
    cases o with
    | @tup p us0 _ _ _ _ q _ _ =>
      refine ⟨xs, _, _, p, .t, w, rfl, rfl, fun us es σV σ Z H c l _ R B _ => ?_, us0, q.seq⟩
      obtain ⟨b, o⟩ := top l R B
      cases o with
      | tup q e _ => exact ⟨_, _, q.seq, e⟩
  | .val (.fl xs), w, ok, R =>
    obtain ⟨b, o⟩ := top (us := []) (es := []) rfl R B
    cases o with
    | @fl p us0 _ _ _ _ q _ _ =>
      refine ⟨xs, _, _, p, .l, w, rfl, rfl, fun us es σV σ Z H c l _ R B _ => ?_, us0, q.seq⟩
      obtain ⟨b, o⟩ := top l R B
      cases o with
      | fl q e _ => exact ⟨_, _, q.seq, e⟩
  | .val (.lst xs), w, ok, R =>
    obtain ⟨b, o⟩ := top (us := []) (es := []) rfl R B
    cases o with
    | @lst p us0 _ _ _ _ _ q _ _ =>
      refine ⟨xs, _, _, p, .l, w, rfl, rfl, fun us es σV σ Z H c l _ R B _ => ?_, us0, .of q⟩
      obtain ⟨b, o⟩ := top l R B
      cases o with
      | lst q e _ => exact ⟨_, _, .of q, e⟩
  | .ref [i], w, ok, R =>
    unfold walkS at w
    have g : ∀ {xs : List D} {us : List V} {es : List D} {σV' : List (Option V)} {σ' : List D} {Z : Addr → Prop} {H : Hp} {c : Cnt}, VS [i] σV σV' → us.length = es.length → Rel N Z H (frm σV' ++ (us ++ (v :: tvs))) (σ' ++ (es ++ ((RV.ref [i]).own :: tds))) c → Bd σV' σ' → σ'[i]? = some (.lst xs) → ∃ b, Own N.K Z H [v] [.lst xs] b :=
      fun {xs us es σV' σ' Z H c} hv l R B e => by
      obtain ⟨c1, c2, h1, h2, _⟩ := R.own.split2 B.fl
      obtain ⟨v', b, e1, o, _⟩ := h1.item e
      have e2 : (frm σV)[i]? = some v := ok.1
      have e3 : (frm σV')[i]? = (frm σV)[i]? := by unfold frm; rw [List.getElem?_map, List.getElem?_map, hv i (by simp)]
      rw [e3, e2] at e1
      have e1 := Option.some.inj e1
      subst e1
      exact ⟨b, o⟩
    cases e : σ[i]? with
    | none => simp only [e] at w
    | some d =>
      simp only [e] at w
      cases d <;> first | exact w.elim | skip
      rename_i xs
      obtain ⟨b, o⟩ := g (us := []) (es := []) (fun _ _ => rfl) rfl R B e
      cases o with
      | @lst p us0 _ _ _ _ _ q _ _ =>
        refine ⟨xs, _, _, p, .l, w, rfl, rfl, fun us es σV' σ' Z H c l hv R B e => ?_, us0, .of q⟩
        obtain ⟨b, o⟩ := g hv l R B e
        cases o with
        | lst q e _ => exact ⟨_, _, .of q, e⟩

def tI (T : List FnS) (G : List D) (np : Nat) (K : W.Frag) (p : PX) : TI := fun σV H R => ∃ (N : Ent) (Z : Addr → Prop) (σ tds : List D) (tvs : List V) (c : Cnt) (kk : List D → (List D → Prop) → List Nat → List D → Prop), N.K = K ∧ tvs.length = tds.length ∧ Rel N Z H (frm σV ++ tvs) (σ ++ tds) c ∧ Bd σV σ ∧ wpI T G np p σ kk noX ∧
  ∀ ds st hs σ' J H' Z' c' tv td, kk ds st hs σ' → tv.length = td.length → Rel N Z' H' (frm σV ++ (tv ++ tvs)) (σ' ++ (td ++ tds)) c' → Bd σV σ' → Wk N hs σV (tv ++ tvs) (td ++ tds) J ds st → R J H'
theorem tI_itx {a : PX} {R : It → Hp → Prop} (h : tI T G np K (.itx a) σV H R) : iAny K (tX T G np K a) σV H R := by
  obtain ⟨N, Z, σ, tds, tvs, c, kk, e, lt, Rl, B, w, k⟩ := h
  refine ⟨N, Z, σ, tds, tvs, c, _, e, lt, Rl, B, w, fun ra σ1 v1 H1 Z1 c1 w1 P1 => ?_⟩
  obtain ⟨ds, st, hs', a', kd, w2, rfl, _, s, xs, hx⟩ := walk_src P1.R lt P1.ok P1.bd w1
  subst e
  cases kd with
  | l => exact .inl ⟨a', rfl, ⟨xs, hx⟩, k ds st hs' σ1 _ H1 Z1 c1 [.ref a'] [ra.own] w2 rfl P1.R P1.bd (wk_list s)⟩
  | t => exact .inr ⟨a', rfl, ⟨xs, hx⟩, k ds st hs' σ1 _ H1 Z1 c1 [.ref a'] [ra.own] w2 rfl P1.R P1.bd (wk_tup s)⟩
theorem tI_rng2 {a b : PX} {R : It → Hp → Prop} (h : tI T G np K (.rng a b) σV H R) : iRng2 (tCons (tX T G np K a) (tCons (tX T G np K b) tNil)) σV H R := by
  obtain ⟨N, Z, σ, tds, tvs, c, kk, e, lt, Rl, B, w, k⟩ := h
  refine ⟨N, Z, σ, tds, tvs, c, _, e, lt, Rl, B, w, fun ra σ1 v1 H1 Z1 c1 w1 P1 => ?_⟩
  refine ⟨N, Z1, σ1, ra.own :: tds, v1 :: tvs, c1, _, e, by simp [lt], P1.R, P1.bd, w1, fun rb σ2 v2 H2 Z2 c2 w2 P2 => ?_⟩
  match ra, rb, w2, P1, P2 with
  | .val (.int i), .val (.int j), w2, P1, P2 =>
    have e2 := int_of P2.R P2.bd
    obtain ⟨c3, _, R3⟩ := P2.R.drop1 P2.bd.fl
    have e1 := int_of R3 P2.bd
    subst e1 e2
    exact ⟨i, j, rfl, w2.1, k _ _ _ σ2 _ H2 Z2 c2 [.int j, .int i] [.int j, .int i] w2.2 rfl P2.R P2.bd wk_rng⟩
theorem tI_rng3 {a b d : PX} {R : It → Hp → Prop} (h : tI T G np K (.rng3 a b d) σV H R) : iRng3 (tCons (tX T G np K a) (tCons (tX T G np K b) (tCons (tX T G np K d) tNil))) σV H R := by
  obtain ⟨N, Z, σ, tds, tvs, c, kk, e, lt, Rl, B, w, k⟩ := h
  refine ⟨N, Z, σ, tds, tvs, c, _, e, lt, Rl, B, w, fun ra σ1 v1 H1 Z1 c1 w1 P1 => ?_⟩
  refine ⟨N, Z1, σ1, ra.own :: tds, v1 :: tvs, c1, _, e, by simp [lt], P1.R, P1.bd, w1, fun rb σ2 v2 H2 Z2 c2 w2 P2 => ?_⟩
  refine ⟨N, Z2, σ2, rb.own :: ra.own :: tds, v2 :: v1 :: tvs, c2, _, e, by simp [lt], P2.R, P2.bd, w2, fun rc σ3 v3 H3 Z3 c3 w3 P3 => ?_⟩
  match ra, rb, rc, w3, P1, P2, P3 with
  | .val (.int i), .val (.int j), .val (.int l), w3, P1, P2, P3 =>
    obtain ⟨n, hr, w3⟩ := w3
    have e3 := int_of P3.R P3.bd
    obtain ⟨c4, _, R4⟩ := P3.R.drop1 P3.bd.fl
    have e2 := int_of R4 P3.bd
    obtain ⟨c5, _, R5⟩ := R4.drop1 P3.bd.fl
    have e1 := int_of R5 P3.bd
    subst e1 e2 e3
    exact ⟨i, j, l, n, rfl, hr, k _ _ _ σ3 _ H3 Z3 c3 [.int l, .int j, .int i] [.int l, .int j, .int i] w3 rfl P3.R P3.bd wk_step⟩
theorem tI_rng1 {b : PX} {R : It → Hp → Prop} (h : tI T G np K (.rng (.cst (.int 0)) b) σV H R) : iRng1 (tCons (tX T G np K b) tNil) σV H R := by
  obtain ⟨N, Z, σ, tds, tvs, c, kk, e, lt, Rl, B, w, k⟩ := h
  refine ⟨N, Z, σ, tds, tvs, c, _, e, lt, Rl, B, w, fun rb σ2 v2 H2 Z2 c2 w2 P2 => ?_⟩
  match rb, w2, P2 with
  | .val (.int j), w2, P2 =>
    have e2 := int_of P2.R P2.bd
    subst e2
    obtain ⟨⟨_, _, h3, h4⟩, w2⟩ := w2
    refine ⟨j, rfl, h3, h4, k _ _ _ σ2 _ H2 Z2 c2 [.int j] [.int j] w2 rfl P2.R P2.bd ?_⟩
    have : (j - 0).toNat = j.toNat := by omega
    rw [this]
    exact wk_rng
theorem tI_enum {a : PX} {R : It → Hp → Prop} (h : tI T G np K (.enum a) σV H R) : iEnumA K (tCons (tX T G np K a) tNil) σV H R := by
  obtain ⟨N, Z, σ, tds, tvs, c, kk, e, lt, Rl, B, w, k⟩ := h
  refine ⟨N, Z, σ, tds, tvs, c, _, e, lt, Rl, B, w, fun ra σ1 v1 H1 Z1 c1 w1 P1 => ?_⟩
  obtain ⟨ds, st, hs', a', kd, ⟨⟨hi, h2⟩, w2⟩, rfl, hk, s, xs, hx⟩ := walk_src P1.R lt P1.ok P1.bd w1
  subst e
  cases kd with
  | l => exact ⟨a', xs, rfl, .inl ⟨hx, k _ st hs' σ1 _ H1 Z1 c1 [.ref a'] [ra.own] w2 rfl P1.R P1.bd (wk_enum hi s)⟩⟩
  | t => exact ⟨a', xs, rfl, .inr ⟨hx, k _ st hs' σ1 _ H1 Z1 c1 [.ref a'] [ra.own] w2 rfl P1.R P1.bd (wk_enumT hi s)⟩⟩
theorem Src.up {hs hs' : List Nat} {st : List D → Prop} {S : Hp → List V → Prop} {ds : List D} {v : V} {x : D} (s : Src N hs σV tvs tds st S ds) (h : ∀ i ∈ hs, i ∈ hs') : Src N hs' σV (v :: tvs) (x :: tds) st S ds := fun us es σV' σ' Z H c l hv R B q =>
  s (us ++ [v]) (es ++ [x]) σV' σ' Z H c (by simp [l]) (fun i hi => hv i (h i hi)) (by simpa using R) B q
theorem Src.more {hs hs' : List Nat} {st : List D → Prop} {S : Hp → List V → Prop} {ds : List D} (s : Src N hs σV tvs tds st S ds) (h : ∀ i ∈ hs, i ∈ hs') : Src N hs' σV tvs tds st S ds := fun us es σV' σ' Z H c l hv R B q => s us es σV' σ' Z H c l (fun i hi => hv i (h i hi)) R B q
theorem tI_zip {a b : PX} {R : It → Hp → Prop} (h : tI T G np K (.zip a b) σV H R) : RZ.iZipA K (tCons (tX T G np K a) (tCons (tX T G np K b) tNil)) σV H R := by
  obtain ⟨N, Z, σ, tds, tvs, c, kk, e, lt, Rl, B, w, k⟩ := h
  refine ⟨N, Z, σ, tds, tvs, c, _, e, lt, Rl, B, w, fun ra σ1 v1 H1 Z1 c1 w1 P1 => ?_⟩
  refine ⟨N, Z1, σ1, ra.own :: tds, v1 :: tvs, c1, _, e, by simp [lt], P1.R, P1.bd, w1, fun rb σ2 v2 H2 Z2 c2 w2 P2 => ?_⟩
  cases q : ok2 ra b with
  | false => simp only [q] at w2
  | true =>
    simp only [q] at w2
    have k1 : RVok σ2 H2 (frm σV) v1 ra := P1.ok.later q P2.qt
    obtain ⟨c3, _, R3⟩ := P2.R.drop1 P2.bd.fl
    obtain ⟨ds, st, hs1, a1, kd1, w3, rfl, hk1, s1, xs, hx⟩ := walk_src R3 lt k1 P2.bd w2
    obtain ⟨es, st2, hs2, a2, kd2, ⟨⟨i1, i2, q1, q2⟩, w4⟩, rfl, hk2, s2, ys, hy⟩ := walk_src (tvs := .ref a1 :: tvs) (tds := ra.own :: tds) P2.R (by simp [lt]) P2.ok P2.bd w3
    subst e
    have s1' := s1.up (v := .ref a2) (x := rb.own) (hs' := hs1 ++ hs2) fun i hi => List.mem_append_left _ hi
    have s2' := s2.more (hs' := hs1 ++ hs2) fun i hi => List.mem_append_right _ hi
    rw [hk1, hk2] at q1
    cases kd1 with
    | l =>
      cases kd2 with
      | l => exact ⟨a1, a2, xs, ys, rfl, .inl ⟨hx, hy, k _ _ _ σ2 _ H2 Z2 c2 [.ref a2, .ref a1] [rb.own, ra.own] w4 rfl P2.R P2.bd (wk_zip i1 i2 s1' s2')⟩⟩
      | t => cases q1
    | t =>
      cases kd2 with
      | l => cases q1
      | t => exact ⟨a1, a2, xs, ys, rfl, .inr ⟨hx, hy, k _ _ _ σ2 _ H2 Z2 c2 [.ref a2, .ref a1] [rb.own, ra.own] w4 rfl P2.R P2.bd (wk_zipT i1 i2 s1' s2')⟩⟩

/-! ### targets -/
theorem Own.setv : ∀ {ds : List D} {vs : List V} {c : Cnt} {i : Nat}, Own K Z H vs ds c → i < ds.length → ∃ r : Cnt, (∀ a, r a ≤ c a) ∧ ∀ (v' : V) (d' : D) (b' : Cnt), Own K Z H [v'] [d'] b' → Own K Z H (vs.set i v') (ds.set i d') (fun a => b' a + r a)
  | [], _, _, _, _, h => by simp at h
  | d :: ds, vs, c, i, h, hi => by
    cases vs with
    | nil => have := h.len; simp at this
    | cons v vs =>
      obtain ⟨c1, c2, h1, h2, q⟩ := h.uncons
      cases i with
      | zero => exact ⟨c2, fun a => by have := q a; omega, fun v' d' b' o => o.cons h2⟩
      | succ i =>
        obtain ⟨r, le, f⟩ := Own.setv (i := i) h2 (by simpa using hi)
        exact ⟨fun a => c1 a + r a, fun a => by have := q a; have := le a; (try dsimp only); omega, fun v' d' b' o => (h1.cons (f v' d' b' o)).cast fun a => by (try dsimp only); omega⟩
/-- the value on the stack goes to a name -/
theorem Rel.setTop {v : V} {d : D} {i : Nat} (R : Rel N Z H (frm σV ++ (v :: tvs)) (σ ++ (d :: tds)) c) (B : Bd σV σ) (hi : i < σ.length) : ∃ c', Rel N Z H (frm (σV.set i (some v)) ++ tvs) (σ.set i d ++ tds) c' ∧ Bd (σV.set i (some v)) (σ.set i d) := by
  obtain ⟨c1, c2, h1, h2, q1⟩ := R.own.split2 B.fl
  obtain ⟨c3, c4, h3, h4, q2⟩ := h2.uncons
  obtain ⟨r, le, f⟩ := h1.setv hi
  have e : frm (σV.set i (some v)) = (frm σV).set i v := by unfold frm; rw [List.map_set]; rfl
  refine ⟨fun a => (c3 a + r a) + c4 a, ?_, ?_⟩
  · rw [e]
    exact R.re ((f v d c3 h3).app h4) fun a => by have := q1 a; have := q2 a; have := le a; (try dsimp only); omega
  · refine ⟨by rw [List.length_set, List.length_set]; exact B.len, fun j y hy n => ?_⟩
    by_cases hj : j = i
    · subst hj
      exact ⟨v, List.getElem?_set_self (by rw [B.len]; exact hi)⟩
    · rw [List.getElem?_set_ne (Ne.symm hj)] at hy ⊢
      exact B.get j y hy n
theorem okSet_lt {i : Nat} (h : okSet np σ i = true) : i < σ.length := by
  unfold okSet at h
  simpa using h
theorem setK_ok {i : Nat} {d : D} {kk : List D → Prop} (w : setK np i d σ kk) : i < σ.length ∧ okSet np σ i = true ∧ kk (σ.set i d) := by
  unfold setK at w
  cases e : okSet np σ i with
  | false => simp only [e] at w
  | true => simp only [e] at w; exact ⟨okSet_lt e, rfl, w⟩
def tT (K : W.Frag) (np : Nat) (tg : Tg) : TG := fun v σV H Q => ∃ (N : Ent) (Z : Addr → Prop) (σ tds : List D) (tvs : List V) (c : Cnt) (d : D) (kk : List D → Prop), N.K = K ∧ Rel N Z H (frm σV ++ (v :: tvs)) (σ ++ (d :: tds)) c ∧ Bd σV σ ∧ bindT np tg d σ kk ∧
  ∀ σV' σ' c', kk σ' → Rel N Z H (frm σV' ++ tvs) (σ' ++ tds) c' → Bd σV' σ' → σV'.length = σV.length → (∀ j, tgHas j tg = false → σV'[j]? = σV[j]?) → Q σV' H
theorem tT_one {i : Nat} {v : V} {Qs : L2.St → Hp → Prop} (h : tT K np (.one i) v σV H Qs) : gName i v σV H Qs := by
  obtain ⟨N, Z, σ, tds, tvs, c, d, kk, eK, R, B, w, k⟩ := h
  unfold bindT at w
  cases hi : d.im with
  | false => simp only [hi] at w
  | true =>
    simp only [hi] at w
    obtain ⟨h1, _, w⟩ := setK_ok w
    obtain ⟨c', R', B'⟩ := R.setTop B h1
    exact k _ _ c' w R' B' (List.length_set ..) fun j hj => List.getElem?_set_ne (by simpa [tgHas] using hj)
def gNames : List Nat → TGs
  | [] => gNil
  | i :: is => gCons (gName i) (gNames is)
theorem sets_ok {Qs : L2.St → Hp → Prop} : ∀ {is : List Nat} {xs : List V} {es : List D} {σV : List (Option V)} {σ : List D} {c : Cnt} {kk : List D → Prop}, Rel N Z H (frm σV ++ tvs) (σ ++ tds) c → Bd σV σ → Own N.K Z H xs es (fun _ => 0) → setsK np is es σ kk →
    (∀ σV' σ' c', kk σ' → Rel N Z H (frm σV' ++ tvs) (σ' ++ tds) c' → Bd σV' σ' → σV'.length = σV.length → (∀ j, j ∉ is → σV'[j]? = σV[j]?) → Qs σV' H) → gNames is xs σV H Qs
  | [], xs, es, σV, σ, c, kk, R, B, o, w, k => by
    cases es with
    | cons _ _ => exact w.elim
    | nil =>
      have : xs = [] := List.eq_nil_of_length_eq_zero o.len
      exact ⟨this, k σV σ c w R B rfl fun _ _ => rfl⟩
  | i :: is, xs, es, σV, σ, c, kk, R, B, o, w, k => by
    cases es with
    | nil => exact w.elim
    | cons d es =>
      cases xs with
      | nil => have := o.len; simp at this
      | cons x xs =>
        unfold setsK at w
        cases hi : d.im with
        | false => simp only [hi] at w
        | true =>
          simp only [hi] at w
          obtain ⟨h1, _, w⟩ := setK_ok w
          obtain ⟨c1, c2, o1, o2, q⟩ := o.uncons
          obtain ⟨c', R', B'⟩ := (R.push0 B.fl (o1.im1 hi)).setTop B h1
          refine ⟨x, xs, rfl, sets_ok R' B' (o2.zero_of fun a => by have := q a; omega) w fun σV' σ' c'' w' R2 B2 hl hj => k σV' σ' c'' w' R2 B2 (hl.trans (List.length_set ..)) fun j hjj => ?_⟩
          simp only [List.mem_cons, not_or] at hjj
          rw [hj j hjj.2, List.getElem?_set_ne (Ne.symm hjj.1)]
theorem setsK_len : ∀ {is : List Nat} {es : List D} {σ : List D} {kk : List D → Prop}, setsK np is es σ kk → es.length = is.length
  | [], [], _, _, _ => rfl
  | [], _ :: _, _, _, w => w.elim
  | _ :: _, [], _, _, w => w.elim
  | i :: is, d :: es, σ, kk, w => by
    unfold setsK at w
    cases hi : d.im with
    | false => simp only [hi] at w
    | true =>
      simp only [hi] at w
      obtain ⟨_, _, w⟩ := setK_ok w
      simp [setsK_len w]
theorem tT_many {is : List Nat} {v : V} {Qs : L2.St → Hp → Prop} (h : tT K np (.many is) v σV H Qs) : gTup K is.length (gNames is) v σV H Qs := by
  obtain ⟨N, Z, σ, tds, tvs, c, d, kk, eK, R, B, w, k⟩ := h
  cases d <;> first | exact w.elim | skip
  · rename_i es
    have w : setsK np is es σ kk := w
    obtain ⟨c1, c2, h1, h2, _⟩ := R.own.split2 B.fl
    obtain ⟨c3, c4, h3, h4, _⟩ := h2.uncons
    obtain ⟨c', _, R'⟩ := R.drop1 B.fl
    cases h3 with
    | @tup p us _ _ _ _ q o _ =>
      subst eK
      refine ⟨p, us, rfl, q.seq, by rw [o.len]; exact setsK_len w, sets_ok R' B o w fun σV' σ' c'' w' R2 B2 hl hj => k σV' σ' c'' w' R2 B2 hl fun j hjj => hj j ?_⟩
      simpa [tgHas] using hjj
  · rename_i es
    have w : setsK np is es σ kk := w
    obtain ⟨c1, c2, h1, h2, _⟩ := R.own.split2 B.fl
    obtain ⟨c3, c4, h3, h4, _⟩ := h2.uncons
    obtain ⟨c', _, R'⟩ := R.drop1 B.fl
    cases h3 with
    | @pr p us _ _ _ _ q o _ =>
      subst eK
      refine ⟨p, us, rfl, q, by rw [o.len]; exact setsK_len w, sets_ok R' B o w fun σV' σ' c'' w' R2 B2 hl hj => k σV' σ' c'' w' R2 B2 hl fun j hjj => hj j ?_⟩
      simpa [tgHas] using hjj
end
end MP

set_option Elab.async false
set_option linter.all false
set_option maxRecDepth 100000
set_option maxHeartbeats 1000000
/-! List comprehensions. -/
namespace MP
open PySem PySem.Spec PyProof.Rows L2
section
variable {T : List FnS} {G : List D} {np : Nat} {K : W.Frag} {N : Ent} {Z : Addr → Prop} {H : Hp} {σV : List (Option V)} {σ tds : List D} {tvs : List V} {c : Cnt} {Q : VK}
theorem wipeD_len : ∀ {vs : List Nat} {σ : List D}, (wipeD σ vs).length = σ.length
  | [], _ => rfl
  | v :: vs, σ => by show ((wipeD σ vs).set v .bot).length = _; rw [List.length_set, wipeD_len]
theorem wipeD_get : ∀ {vs : List Nat} {σ : List D} {j : Nat}, (wipeD σ vs)[j]? = if j ∈ vs then (if j < σ.length then some .bot else none) else σ[j]?
  | [], σ, j => by simp [wipeD]
  | v :: vs, σ, j => by
    show ((wipeD σ vs).set v .bot)[j]? = _
    by_cases hj : v = j
    · subst hj
      by_cases hl : v < σ.length
      · rw [List.getElem?_set_self (by rw [wipeD_len]; exact hl)]; simp [hl]
      · rw [List.getElem?_eq_none (by rw [List.length_set, wipeD_len]; omega)]; simp [hl]
    · rw [List.getElem?_set_ne hj, wipeD_get]
      simp [Ne.symm hj]
theorem wipe_get : ∀ {vs : List Nat} {σ : List (Option V)} {j : Nat}, (wipe σ vs)[j]? = if j ∈ vs then (if j < σ.length then some none else none) else σ[j]?
  | [], σ, j => by simp [wipe]
  | v :: vs, σ, j => by
    show ((wipe σ vs).set v none)[j]? = _
    by_cases hj : v = j
    · subst hj
      by_cases hl : v < σ.length
      · rw [List.getElem?_set_self (by rw [wipe_length]; exact hl)]; simp [hl]
      · rw [List.getElem?_eq_none (by rw [List.length_set, wipe_length]; omega)]; simp [hl]
    · rw [List.getElem?_set_ne hj, wipe_get]
      simp [Ne.symm hj]
theorem wipe_ext {vs : List Nat} {σ1 σ2 : List (Option V)} (hl : σ1.length = σ2.length) (h : ∀ j, j ∉ vs → σ1[j]? = σ2[j]?) : wipe σ1 vs = wipe σ2 vs := by
  refine List.ext_getElem? fun j => ?_
  rw [wipe_get, wipe_get]
  by_cases hj : j ∈ vs
  · simp [hj, hl]
  · simp [hj, h j hj]
theorem wipeD_idem {vs : List Nat} {σ : List D} : wipeD (wipeD σ vs) vs = wipeD σ vs := by
  refine List.ext_getElem? fun j => ?_
  rw [wipeD_get, wipeD_len]
  by_cases hj : j ∈ vs
  · rw [if_pos hj, wipeD_get, if_pos hj]
  · rw [if_neg hj]
theorem Rel.wiped : ∀ {vs : List Nat}, Rel N Z H (frm σV ++ tvs) (σ ++ tds) c → Bd σV σ → ∃ c', Rel N Z H (frm (wipe σV vs) ++ tvs) (wipeD σ vs ++ tds) c' ∧ Bd (wipe σV vs) (wipeD σ vs)
  | [], R, B => ⟨c, R, B⟩
  | v :: vs, R, B => by
    obtain ⟨c', R', B'⟩ := Rel.wiped (vs := vs) R B
    show ∃ c'', Rel N Z H (frm ((wipe σV vs).set v none) ++ tvs) ((wipeD σ vs).set v .bot ++ tds) c'' ∧ Bd ((wipe σV vs).set v none) ((wipeD σ vs).set v .bot)
    by_cases hv : v < (wipeD σ vs).length
    · obtain ⟨c1, c2, h1, h2, q1⟩ := R'.own.split2 B'.fl
      obtain ⟨r, le, f⟩ := h1.setv hv
      have e : frm ((wipe σV vs).set v none) = (frm (wipe σV vs)).set v .non := by unfold frm; rw [List.map_set]; rfl
      refine ⟨fun a => (0 + r a) + c2 a, ?_, ?_⟩
      · rw [e]
        exact R'.re ((f .non .bot (fun _ => 0) (.bot .nil)).app h2) fun a => by have := q1 a; have := le a; (try dsimp only); omega
      · refine ⟨by rw [List.length_set, List.length_set]; exact B'.len, fun j y hy n => ?_⟩
        by_cases hj : j = v
        · subst hj
          rw [List.getElem?_set_self hv] at hy
          exact absurd (Option.some.inj hy).symm n
        · rw [List.getElem?_set_ne (Ne.symm hj)] at hy ⊢
          exact B'.get j y hy n
    · have hv' := Nat.le_of_not_lt hv
      have hl := B'.len
      rw [List.set_eq_of_length_le hv', List.set_eq_of_length_le (by omega)]
      exact ⟨c', R', B'⟩
theorem Own.swapV : ∀ {ds : List D} {vs vs' : List V} {c : Cnt}, Own K Z H vs ds c → vs'.length = vs.length → (∀ (j : Nat) (d : D), ds[j]? = some d → d ≠ .bot → vs'[j]? = vs[j]?) → Own K Z H vs' ds c
  | [], vs, vs', c, h, hl, _ => by
    cases h
    have : vs' = [] := List.eq_nil_of_length_eq_zero hl
    subst this; exact .nil
  | d :: ds, vs, vs', c, h, hl, hg => by
    cases vs with
    | nil => have := h.len; simp at this
    | cons v vs =>
      cases vs' with
      | nil => simp at hl
      | cons v' vs' =>
        obtain ⟨c1, c2, h1, h2, q⟩ := h.uncons
        have h2' := Own.swapV h2 (by simpa using hl) fun j d e n => by simpa using hg (j + 1) d (by simpa using e) n
        by_cases hd : d = .bot
        · subst hd
          cases h1 with
          | bot h1 =>
            cases h1
            exact (Own.cons (.bot .nil) h2').cast fun a => by have := q a; (try dsimp only at *); omega
        · have := hg 0 d rfl hd
          have e : v' = v := by simpa using this
          subst e
          exact (h1.cons h2').cast fun a => by have := q a; (try dsimp only at *); omega
theorem Rel.unwiped {vs : List Nat} (R : Rel N Z H (frm (wipe σV vs) ++ tvs) (σ ++ tds) c) (B : Bd (wipe σV vs) σ) (e : wipeD σ vs = σ) : Rel N Z H (frm σV ++ tvs) (σ ++ tds) c ∧ Bd σV σ := by
  have out : ∀ (j : Nat) (d : D), σ[j]? = some d → d ≠ .bot → j ∉ vs := fun j d hd n hj => by
    rw [← e, wipeD_get, if_pos hj] at hd
    split at hd
    · exact n (Option.some.inj hd).symm
    · cases hd
  have hl : σV.length = σ.length := by have := B.len; rw [wipe_length] at this; exact this
  obtain ⟨c1, c2, h1, h2, q1⟩ := R.own.split2 B.fl
  have hsw : Own N.K Z H (frm σV) σ c1 := h1.swapV (by unfold frm; rw [List.length_map, List.length_map, wipe_length]) fun j d hd n => by
    unfold frm
    rw [List.getElem?_map, List.getElem?_map, wipe_get, if_neg (out j d hd n)]
  refine ⟨R.re ((hsw.app h2).cast (c' := c) fun a => (q1 a).symm) fun _ => Nat.le_refl _, hl, fun j d hd n => ?_⟩
  obtain ⟨v, hv⟩ := B.get j d hd n
  rw [wipe_get, if_neg (out j d hd n)] at hv
  exact ⟨v, hv⟩
theorem wipe_idem {vs : List Nat} {σ : List (Option V)} : wipe (wipe σ vs) vs = wipe σ vs := by
  refine List.ext_getElem? fun j => ?_
  rw [wipe_get (σ := wipe σ vs), wipe_length]
  by_cases hjv : j ∈ vs
  · rw [if_pos hjv, wipe_get, if_pos hjv]
  · rw [if_neg hjv]
/-- a new list gets a new item -/
theorem Rel.tmpApp {D : Addr} {y : V} {dy : MP.D} {acc : List MP.D} (R : Rel N Z H (frm σV ++ (y :: (.ref D :: tvs))) (σ ++ (dy :: (.lst acc :: tds))) c) (B : Bd σV σ) :
    ∃ us, H D = some (.lst us) ∧ us.length = acc.length ∧ ∃ c', Rel N Z (upd H D (.lst (us ++ [y]))) (frm σV ++ (.ref D :: tvs)) (σ ++ (.lst (acc ++ [dy]) :: tds)) c' := by
  obtain ⟨c1, c2, h1, h2, q1⟩ := R.own.split2 B.fl
  obtain ⟨c3, c4, h3, h4, q2⟩ := h2.uncons
  obtain ⟨c5, c6, h5, h6, q3⟩ := h4.uncons
  cases h5 with
  | lst hq ho ht =>
    cases ht
    rename_i us bes
    have un := R.uni
    have cq : 0 < c D := by have := q1 D; have := q2 D; have := q3 D; simp only [one_self] at *; omega
    have nz : ¬ Z D := R.fz D cq
    have u1 := un D
    have u2 := q1 D
    have u3 := q2 D
    have u4 := q3 D
    simp only [one_self] at u4
    have keepq : ∀ {vs' : List V} {ds' : List MP.D} {b0 : Cnt}, Own N.K Z H vs' ds' b0 → b0 D = 0 → Own N.K Z (upd H D (.lst (us ++ [y]))) vs' ds' b0 := fun h e => h.updq e hq nz
    refine ⟨us, hq, ho.len, _, R.wr cq ((keepq h1 (by omega)).app ((Own.lst upd_same ((keepq ho (by omega)).app (keepq h3 (by omega))) .nil).cons (keepq h6 (by omega)))) fun a => ?_⟩
    have := q1 a; have := q2 a; have := q3 a
    (try dsimp only at *); omega
theorem tX_lc {elt it cond : PX} {tg : Tg} {vs : List Nat} (hvs : ∀ j, tgHas j tg = true → j ∈ vs) (h : tX T G np K (.lc elt tg it cond vs) σV H Q) :
    tLc (tI T G np K it) (tT K np tg) (tTest (tX T G np K cond)) (tX T G np K elt) vs σV H Q := by
  obtain ⟨N, Z, σ, tds, tvs, c, kk, e, lt, R, B, w, k⟩ := h
  refine ⟨N, Z, σ, tds, tvs, c, _, e, lt, R, B, w, fun ds st hs σ1 J H1 Z1 c1 tv td w1 l1 R1 B1 Wk1 => ?_⟩
  intro D hD
  obtain ⟨hhs, w1⟩ := w1
  have hout : ∀ i ∈ hs, i ∉ vs := fun i hi => by
    rw [List.all_eq_true] at hhs
    simpa using hhs i hi
  have hVS : VS hs σV (wipe σV vs) := fun i hi => by rw [wipe_get, if_neg (hout i hi)]
  obtain ⟨c2, R2, B2⟩ := R1.wiped (vs := vs) B1
  subst e
  have R3 := Rel.newLst (us := []) (es := []) (tvs := tv ++ tvs) (tds := td ++ tds) R2 B2.fl rfl hD
  refine ⟨fun i m Hh => m = ds.length - i ∧ i ≤ ds.length ∧ ∃ (Zh : Addr → Prop) (σ2 : List MP.D) (ch : Cnt) (acc : List MP.D), Rel N Zh Hh (frm (wipe σV vs) ++ (.ref D :: (tv ++ tvs))) (σ2 ++ (.lst acc :: (td ++ tds))) ch ∧ Bd (wipe σV vs) σ2 ∧ wipeD σ2 vs = σ2 ∧
      forC st (fun d σ2 k2 => bindT np tg d σ2 fun σ3 => wpX T G np cond σ3 (fun rc σ4 => match rc with
      | .val (.bl t) => br t (wpX T G np elt σ4 (fun re σ5 => take re σ5 fun y σ6 => k2 (some y) (wipeD σ6 vs)) noX) (k2 none (wipeD σ4 vs))
      | _ => False) noX) (ds.drop i) acc σ2 fun acc σ' => kk (.val (.lst acc)) σ', ⟨_, rfl, Nat.zero_le _, Z1, _, _, [], R3, B2, wipeD_idem, w1⟩, ?_⟩
  rintro i m Hh ⟨rfl, hi, Zh, σ2, ch, acc, Rh, Bh, hw, wf⟩
  cases hdr : ds.drop i with
  | nil =>
    rw [hdr] at wf
    obtain ⟨hst, wf⟩ := wf
    have hlen : ds.length ≤ i := by
      have := congrArg List.length hdr
      rw [List.length_drop] at this
      simp at this; omega
    have ei : i = ds.length := by omega
    subst ei
    refine .inl ⟨Wk1.stop [.ref D] [.lst acc] _ _ Zh Hh ch rfl hVS Rh Bh hst, ?_⟩
    obtain ⟨Ru, Bu⟩ := Rh.unwiped Bh hw
    have Rr := Rel.rot (A := frm σV) (B := [.ref D]) (C := tv) (E := tvs) (A' := σ2) (B' := [.lst acc]) (C' := td) (E' := tds) Ru Bu.fl rfl l1
    obtain ⟨cf, _, Rf⟩ := Rel.drop (us := tv) (es := td) (tvs := .ref D :: tvs) (tds := .lst acc :: tds) Rr Bu.fl l1
    exact k (.val (.lst acc)) σ2 _ Hh Zh cf wf ⟨Rf, trivial, Bu, fun z => by cases z⟩
  | cons d rest =>
    rw [hdr] at wf
    obtain ⟨hst, wf⟩ := wf
    have hlt : i < ds.length := by
      have := congrArg List.length hdr
      rw [List.length_drop] at this
      simp at this; omega
    have hd : ds[i]? = some d := by
      have : (ds.drop i)[0]? = some d := by rw [hdr]; rfl
      rw [List.getElem?_drop] at this
      simpa using this
    have hrest : ds.drop (i + 1) = rest := by
      have : (ds.drop i).drop 1 = rest := by rw [hdr]; rfl
      rw [List.drop_drop] at this
      exact this
    -- the item owns nothing, or it can't be bound
    have him : d.im = true := by
      unfold bindT at wf
      cases tg with
      | one j =>
        simp only at wf
        cases hi : d.im with
        | false => simp only [hi] at wf
        | true => rfl
      | many is =>
        simp only at wf
        cases d <;> first | exact wf.elim | rfl
    obtain ⟨go, yl⟩ := Wk1.item [.ref D] [.lst acc] _ _ Zh Hh ch i d rfl hVS Rh Bh hst hd him
    refine .inr ⟨go, fun H' => ∃ m', m' < ds.length - i ∧ (m' = ds.length - (i + 1) ∧ i + 1 ≤ ds.length ∧ ∃ (Zh : Addr → Prop) (σ2 : List MP.D) (ch : Cnt) (acc : List MP.D), Rel N Zh H' (frm (wipe σV vs) ++ (.ref D :: (tv ++ tvs))) (σ2 ++ (.lst acc :: (td ++ tds))) ch ∧ Bd (wipe σV vs) σ2 ∧ wipeD σ2 vs = σ2 ∧
      forC st (fun d σ2 k2 => bindT np tg d σ2 fun σ3 => wpX T G np cond σ3 (fun rc σ4 => match rc with
      | .val (.bl t) => br t (wpX T G np elt σ4 (fun re σ5 => take re σ5 fun y σ6 => k2 (some y) (wipeD σ6 vs)) noX) (k2 none (wipeD σ4 vs))
      | _ => False) noX) (ds.drop (i + 1)) acc σ2 fun acc σ' => kk (.val (.lst acc)) σ'), fun H' q => q, fun x H' hy => ?_⟩
    obtain ⟨hsame, Rx⟩ := yl x H' hy
    refine ⟨N, Zh, σ2, .lst acc :: (td ++ tds), .ref D :: (tv ++ tvs), ch, d, _, rfl, Rx, Bh, wf, fun σV3 σ3 c3 w3 R3 B3 hl3 hj => ?_⟩
    have hwp : wipe σV3 vs = wipe σV vs := by
      rw [← wipe_idem (σ := σV)]
      refine wipe_ext hl3 fun j hjv => hj j ?_
      cases q : tgHas j tg with
      | false => rfl
      | true => exact absurd (hvs j q) hjv
    have lt3 : (V.ref D :: (tv ++ tvs)).length = (MP.D.lst acc :: (td ++ tds)).length := by simp [lt, l1]
    refine ⟨hwp, tX_test R3 lt3 B3 w3 (fun t σ4 H4 Z4 c4 w4 R4 B4 _ => ?_) fun r σ1 w => ?_⟩
    · cases t with
      | false =>
        simp only [Bool.false_eq_true, if_false]
        obtain ⟨c5, R5, B5⟩ := R4.wiped (vs := vs) B4
        rw [hwp] at R5 B5
        exact ⟨_, by omega, rfl, hlt, Z4, _, c5, acc, R5, B5, wipeD_idem, by rw [hrest]; exact w4.2 rfl⟩
      | true =>
        simp only [if_true]
        refine ⟨N, Z4, σ4, .lst acc :: (td ++ tds), .ref D :: (tv ++ tvs), c4, _, rfl, lt3, R4, B4, w4.1 rfl, fun re σ5 y H5 Z5 c5 w5 P5 => ?_⟩
        obtain ⟨dy, σ6, w6, R6, B6, _⟩ := take_ok P5.R P5.ok P5.bd w5
        obtain ⟨us, hD, hl, c7, R7⟩ := R6.tmpApp B6
        refine ⟨us, hD, by rw [hl]; exact w6.1, ?_⟩
        obtain ⟨c8, R8, B8⟩ := R7.wiped (vs := vs) B6
        rw [hwp] at R8 B8
        exact ⟨_, by omega, rfl, hlt, Z5, _, c8, _, R8, B8, wipeD_idem, by rw [hrest]; exact w6.2⟩
    · match r, w with
      | .val (.bl t), _ => exact ⟨t, rfl⟩
end
end MP

set_option Elab.async false
set_option linter.all false
set_option maxRecDepth 100000
set_option maxHeartbeats 1000000
/-! Statements: what the wp over trees says, the layer's reading asks. -/
namespace MP
open PySem PySem.Spec PyProof.Rows L2

def stays (p : PSt) (σV σV' : List (Option V)) : Prop := σV'.length = σV.length ∧ ∀ j, asgd j p = false → σV'[j]? = σV[j]?
structure EnOk (N : Ent) (p : PSt) (σV : List (Option V)) (tvs : List V) (tds : List D) (E : En) (Ds : Ends) : Prop where
  nx : ∀ Z H σV' σ c, E.nx σ → Rel N Z H (frm σV' ++ tvs) (σ ++ tds) c → Bd σV' σ → stays p σV σV' → Ds.nx σV' H
  bk : ∀ Z H σV' σ c, E.bk σ → Rel N Z H (frm σV' ++ tvs) (σ ++ tds) c → Bd σV' σ → stays p σV σV' → Ds.bk σV' H
  ct : ∀ Z H σV' σ c, E.ct σ → Rel N Z H (frm σV' ++ tvs) (σ ++ tds) c → Bd σV' σ → stays p σV σV' → Ds.ct σV' H
  rt : ∀ Z H (σV' : List (Option V)) σ c d v, E.rt d σ → Rel N Z H (frm σV' ++ (v :: tvs)) (σ ++ (d :: tds)) c → (frm σV').length = σ.length → stays p σV σV' → Ds.rt v H
def tS (T : List FnS) (G : List D) (np : Nat) (K : W.Frag) (p : PSt) : TS := fun Ds σV H => ∃ (N : Ent) (Z : Addr → Prop) (σ tds : List D) (tvs : List V) (c : Cnt) (E : En), N.K = K ∧ tvs.length = tds.length ∧ Rel N Z H (frm σV ++ tvs) (σ ++ tds) c ∧ Bd σV σ ∧ wpS T G np p σ E ∧ E.ex = noX ∧ EnOk N p σV tvs tds E Ds
theorem PS.imp {X : Cx} {st : Stmt} {t t' : TS} (h : PS X st t) (hi : ∀ D σ H, t' D σ H → t D σ H) : PS X st t' := ⟨fun pins s σ H D I q => h.run pins s σ H D I (hi _ _ _ q)⟩
theorem PSs.imp {X : Cx} {st : List Stmt} {t t' : TS} (h : PSs X st t) (hi : ∀ D σ H, t' D σ H → t D σ H) : PSs X st t' := ⟨fun pins s σ H D I q => h.run pins s σ H D I (hi _ _ _ q)⟩

section
variable {T : List FnS} {G : List D} {np : Nat} {K : W.Frag} {N : Ent} {Z : Addr → Prop} {H : Hp} {σV : List (Option V)} {σ tds : List D} {tvs : List V} {c : Cnt} {Ds : Ends} {E : En}
theorem stays.refl {p : PSt} : stays p σV σV := ⟨rfl, fun _ _ => rfl⟩
theorem stays.trans {p q r : PSt} {σ1 σ2 : List (Option V)} (h1 : stays p σV σ1) (h2 : stays q σ1 σ2) (hp : ∀ j, asgd j r = false → asgd j p = false ∧ asgd j q = false) : stays r σV σ2 :=
  ⟨h2.1.trans h1.1, fun j hj => ((h2.2 j (hp j hj).2).trans (h1.2 j (hp j hj).1))⟩
theorem stays.mono {p q : PSt} {σ1 : List (Option V)} (h1 : stays p σV σ1) (hp : ∀ j, asgd j q = false → asgd j p = false) : stays q σV σ1 := ⟨h1.1, fun j hj => h1.2 j (hp j hj)⟩
theorem tS_nil (h : tS T G np K .nil Ds σV H) : tNext Ds σV H := by
  obtain ⟨N, Z, σ, tds, tvs, c, E, e, lt, R, B, w, ex, ok⟩ := h
  exact ok.nx Z H σV σ c w R B .refl
theorem tS_pas (h : tS T G np K .pas Ds σV H) : tNext Ds σV H := by
  obtain ⟨N, Z, σ, tds, tvs, c, E, e, lt, R, B, w, ex, ok⟩ := h
  exact ok.nx Z H σV σ c w R B .refl
theorem tS_brk (h : tS T G np K .brk Ds σV H) : tBreak Ds σV H := by
  obtain ⟨N, Z, σ, tds, tvs, c, E, e, lt, R, B, w, ex, ok⟩ := h
  exact ok.bk Z H σV σ c w R B .refl
theorem tS_cnt (h : tS T G np K .cnt Ds σV H) : tCont Ds σV H := by
  obtain ⟨N, Z, σ, tds, tvs, c, E, e, lt, R, B, w, ex, ok⟩ := h
  exact ok.ct Z H σV σ c w R B .refl
theorem tS_nev (h : tS T G np K .nev Ds σV H) : tNever Ds σV H := by
  obtain ⟨N, Z, σ, tds, tvs, c, E, e, lt, R, B, w, ex, ok⟩ := h
  exact w.elim
theorem tS_retN (h : tS T G np K .retN Ds σV H) : tRetN Ds σV H := by
  obtain ⟨N, Z, σ, tds, tvs, c, E, e, lt, R, B, w, ex, ok⟩ := h
  exact ok.rt Z H σV σ c .non .non w (R.push0 B.fl (.non .nil)) B.fl .refl
theorem asgd_cons {s r : PSt} (j : Nat) (h : asgd j (.cons s r) = false) : asgd j s = false ∧ asgd j r = false := by
  have h : (asgd j s || asgd j r) = false := h
  exact Bool.or_eq_false_iff.mp h
theorem tS_cons {s r : PSt} (h : tS T G np K (.cons s r) Ds σV H) : tSeq (tS T G np K s) (tS T G np K r) Ds σV H := by
  obtain ⟨N, Z, σ, tds, tvs, c, E, e, lt, R, B, w, ex, ok⟩ := h
  refine ⟨N, Z, σ, tds, tvs, c, _, e, lt, R, B, w, ex, ?_, ?_, ?_, ?_⟩
  · intro Z1 H1 σV1 σ1 c1 w1 R1 B1 s1
    exact ⟨N, Z1, σ1, tds, tvs, c1, E, e, lt, R1, B1, w1, ex, fun Z2 H2 σV2 σ2 c2 w2 R2 B2 s2 => ok.nx Z2 H2 σV2 σ2 c2 w2 R2 B2 (s1.trans s2 asgd_cons),
      fun Z2 H2 σV2 σ2 c2 w2 R2 B2 s2 => ok.bk Z2 H2 σV2 σ2 c2 w2 R2 B2 (s1.trans s2 asgd_cons), fun Z2 H2 σV2 σ2 c2 w2 R2 B2 s2 => ok.ct Z2 H2 σV2 σ2 c2 w2 R2 B2 (s1.trans s2 asgd_cons), fun Z2 H2 σV2 σ2 c2 d2 v2 w2 R2 l2 s2 => ok.rt Z2 H2 σV2 σ2 c2 d2 v2 w2 R2 l2 (s1.trans s2 asgd_cons)⟩
  · intro Z1 H1 σV1 σ1 c1 w1 R1 B1 s1
    exact ok.bk Z1 H1 σV1 σ1 c1 w1 R1 B1 (s1.mono fun j hj => (asgd_cons j hj).1)
  · intro Z1 H1 σV1 σ1 c1 w1 R1 B1 s1
    exact ok.ct Z1 H1 σV1 σ1 c1 w1 R1 B1 (s1.mono fun j hj => (asgd_cons j hj).1)
  · intro Z1 H1 σV1 σ1 c1 d1 v1 w1 R1 l1 s1
    exact ok.rt Z1 H1 σV1 σ1 c1 d1 v1 w1 R1 l1 (s1.mono fun j hj => (asgd_cons j hj).1)
theorem tS_exp {e : PX} (h : tS T G np K (.exp e) Ds σV H) : tDrop (tX T G np K e) Ds σV H := by
  obtain ⟨N, Z, σ, tds, tvs, c, E, e, lt, R, B, w, ex, ok⟩ := h
  refine ⟨N, Z, σ, tds, tvs, c, _, e, lt, R, B, by rw [← ex]; exact w, fun r σ1 v H1 Z1 c1 w1 P1 => ?_⟩
  obtain ⟨c2, _, R2⟩ := P1.R.drop1 P1.bd.fl
  exact ok.nx Z1 H1 σV σ1 c2 w1 R2 P1.bd .refl
theorem tS_ret {e : PX} (h : tS T G np K (.ret e) Ds σV H) : tRet (tX T G np K e) Ds σV H := by
  obtain ⟨N, Z, σ, tds, tvs, c, E, e, lt, R, B, w, ex, ok⟩ := h
  refine ⟨N, Z, σ, tds, tvs, c, _, e, lt, R, B, by rw [← ex]; exact w, fun r σ1 v H1 Z1 c1 w1 P1 => ?_⟩
  obtain ⟨d, σ2, w2, R2, B2, _⟩ := take_ok P1.R P1.ok P1.bd w1
  exact ok.rt Z1 H1 σV σ2 c1 d v w2 R2 B2.fl .refl
theorem storeK_ok {i : Nat} {d : D} {kk : List D → Prop} (w : storeK np i d σ kk) : i < σ.length ∧ kk (σ.set i d) := by
  unfold storeK at w
  cases d <;> first | exact w.elim | exact ⟨(setK_ok w).1, (setK_ok w).2.2⟩
theorem stays.set {p : PSt} {i : Nat} {x : Option V} (h : ∀ j, asgd j p = false → i ≠ j) : stays p σV (σV.set i x) := ⟨List.length_set .., fun j hj => List.getElem?_set_ne (h j hj)⟩
theorem tS_asg1 {i : Nat} {e : PX} (h : tS T G np K (.asg (.one i) e) Ds σV H) : tAsg (tX T G np K e) (gName i) Ds σV H := by
  obtain ⟨N, Z, σ, tds, tvs, c, E, e, lt, R, B, w, ex, ok⟩ := h
  refine ⟨N, Z, σ, tds, tvs, c, _, e, lt, R, B, by rw [← ex]; exact w, fun r σ1 v H1 Z1 c1 w1 P1 => ?_⟩
  obtain ⟨d, σ2, w2, R2, B2, _⟩ := take_ok P1.R P1.ok P1.bd w1
  obtain ⟨hi, w3⟩ := storeK_ok w2
  obtain ⟨c', R', B'⟩ := R2.setTop B2 hi
  exact ok.nx Z1 H1 _ _ c' w3 R' B' (.set fun j hj => by simpa [asgd, tgHas] using hj)
theorem setsK_im : ∀ {is : List Nat} {es : List D} {σ : List D} {kk : List D → Prop}, setsK np is es σ kk → imAll es = true
  | [], [], _, _, _ => rfl
  | [], _ :: _, _, _, w => w.elim
  | _ :: _, [], _, _, w => w.elim
  | i :: is, d :: es, σ, kk, w => by
    unfold setsK at w
    cases hi : d.im with
    | false => simp only [hi] at w
    | true =>
      simp only [hi] at w
      obtain ⟨_, _, w⟩ := setK_ok w
      have := setsK_im w
      show (d.im && imAll es) = true
      rw [hi, this]; rfl
theorem tS_asgM {is : List Nat} {e : PX} (h : tS T G np K (.asg (.many is) e) Ds σV H) : tAsg (tX T G np K e) (gTup K is.length (gNames is)) Ds σV H := by
  obtain ⟨N, Z, σ, tds, tvs, c, E, eK, lt, R, B, w, ex, ok⟩ := h
  refine ⟨N, Z, σ, tds, tvs, c, _, eK, lt, R, B, by rw [← ex]; exact w, fun r σ1 v H1 Z1 c1 w1 P1 => ?_⟩
  match r, w1, P1 with
  | .val (.tup es), w1, P1 =>
    obtain ⟨c1', c2, h1, h2, _⟩ := P1.R.own.split2 P1.bd.fl
    obtain ⟨c3, c4, h3, h4, _⟩ := h2.uncons
    obtain ⟨c', _, R'⟩ := P1.R.drop1 P1.bd.fl
    cases h3 with
    | @tup p us _ _ _ _ q o _ =>
      subst eK
      refine ⟨p, us, rfl, q.seq, by rw [o.len]; exact setsK_len w1, sets_ok R' P1.bd o w1 fun σV' σ' c'' w' R2 B2 hl hj => ok.nx Z1 H1 σV' σ' c'' w' R2 B2 ⟨hl, fun j hjj => hj j ?_⟩⟩
      simpa [asgd, tgHas] using hjj
theorem tS_unl {is : List Nat} {e : PX} (h : tS T G np K (.unl is e) Ds σV H) : tAsg (tX T G np K e) (gUnl K is.length (gNames is)) Ds σV H := by
  obtain ⟨N, Z, σ, tds, tvs, c, E, eK, lt, R, B, w, ex, ok⟩ := h
  refine ⟨N, Z, σ, tds, tvs, c, _, eK, lt, R, B, by rw [← ex]; exact w, fun r σ1 v H1 Z1 c1 w1 P1 => ?_⟩
  match r, w1, P1 with
  | .val (.lst es), w1, P1 =>
    obtain ⟨c1', c2, h1, h2, _⟩ := P1.R.own.split2 P1.bd.fl
    obtain ⟨c3, c4, h3, h4, _⟩ := h2.uncons
    obtain ⟨c', _, R'⟩ := P1.R.drop1 P1.bd.fl
    cases h3 with
    | @lst p us _ _ _ _ _ q o _ =>
      subst eK
      refine ⟨p, us, rfl, .of q, by rw [o.len]; exact setsK_len w1, sets_ok R' P1.bd (o.imAll (setsK_im w1)) w1 fun σV' σ' c'' w' R2 B2 hl hj => ok.nx Z1 H1 σV' σ' c'' w' R2 B2 ⟨hl, fun j hjj => hj j ?_⟩⟩
      simpa [asgd] using hjj
theorem tS_par {i j : Nat} {a b : PX} (h : tS T G np K (.par i j a b) Ds σV H) : tPar i j (tTs T G np K (.cons a (.cons b .nil))) Ds σV H := by
  obtain ⟨N, Z, σ, tds, tvs, c, E, eK, lt, R, B, w, ex, ok⟩ := h
  refine ⟨N, Z, σ, tds, tvs, c, _, eK, lt, R, B, by rw [← ex]; exact w, fun ds σ1 vs H1 Z1 c1 w1 P1 => ?_⟩
  match ds, w1, P1 with
  | [d, d'], w1, P1 =>
    match vs, P1 with
    | [], P1 => have := P1.len; simp at this
    | [_], P1 => have := P1.len; simp at this
    | _ :: _ :: _ :: _, P1 => have := P1.len; simp at this
    | [v, v'], P1 =>
      refine ⟨v, v', rfl, ?_⟩
      obtain ⟨h1, w1⟩ := storeK_ok w1
      obtain ⟨h2, w1⟩ := storeK_ok w1
      obtain ⟨c2, R2, B2⟩ := Rel.setTop (tvs := v' :: tvs) (tds := d' :: tds) P1.R P1.bd h1
      obtain ⟨c3, R3, B3⟩ := R2.setTop B2 h2
      refine ok.nx Z1 H1 _ _ c3 w1 R3 B3 ⟨by rw [List.length_set, List.length_set], fun k hk => ?_⟩
      have hk : (i == k || j == k) = false := hk
      simp only [Bool.or_eq_false_iff, beq_eq_false_iff_ne] at hk
      rw [List.getElem?_set_ne hk.2, List.getElem?_set_ne hk.1]
theorem tS_par3 {i j l : Nat} {a b e : PX} (h : tS T G np K (.par3 i j l a b e) Ds σV H) : tPar3 i j l (tTs T G np K (.cons a (.cons b (.cons e .nil)))) Ds σV H := by
  obtain ⟨N, Z, σ, tds, tvs, c, E, eK, lt, R, B, w, ex, ok⟩ := h
  refine ⟨N, Z, σ, tds, tvs, c, _, eK, lt, R, B, by rw [← ex]; exact w, fun ds σ1 vs H1 Z1 c1 w1 P1 => ?_⟩
  match ds, w1, P1 with
  | [d, d', d''], w1, P1 =>
    match vs, P1 with
    | [], P1 => have := P1.len; simp at this
    | [_], P1 => have := P1.len; simp at this
    | [_, _], P1 => have := P1.len; simp at this
    | _ :: _ :: _ :: _ :: _, P1 => have := P1.len; simp at this
    | [v, v', v''], P1 =>
      refine ⟨v, v', v'', rfl, ?_⟩
      obtain ⟨h1, w1⟩ := storeK_ok w1
      obtain ⟨h2, w1⟩ := storeK_ok w1
      obtain ⟨h3, w1⟩ := storeK_ok w1
      obtain ⟨c2, R2, B2⟩ := Rel.setTop (tvs := v' :: v'' :: tvs) (tds := d' :: d'' :: tds) P1.R P1.bd h1
      obtain ⟨c3, R3, B3⟩ := Rel.setTop (tvs := v'' :: tvs) (tds := d'' :: tds) R2 B2 h2
      obtain ⟨c4, R4, B4⟩ := R3.setTop B3 h3
      refine ok.nx Z1 H1 _ _ c4 w1 R4 B4 ⟨by rw [List.length_set, List.length_set, List.length_set], fun k hk => ?_⟩
      have hk : (i == k || (j == k || l == k)) = false := hk
      simp only [Bool.or_eq_false_iff, beq_eq_false_iff_ne] at hk
      rw [List.getElem?_set_ne hk.2.2, List.getElem?_set_ne hk.2.1, List.getElem?_set_ne hk.1]
/-- two at once, the stores in their order: the tuple is made -/
theorem tS_parU {i j : Nat} {a b : PX} (h : tS T G np K (.par i j a b) Ds σV H) : tAsg (tTup (tTs T G np K (.cons a (.cons b .nil)))) (gTup K 2 (gNames [i, j])) Ds σV H := by
  obtain ⟨N, Z, σ, tds, tvs, c, E, eK, lt, R, B, w, ex, ok⟩ := h
  refine ⟨N, Z, σ, tds, tvs, c, _, eK, lt, R, B, by rw [← ex]; exact w, fun ds σ1 vs H1 Z1 c1 w1 P1 => ?_⟩
  match ds, w1, P1 with
  | [d, d'], w1, P1 =>
    match vs, P1 with
    | [], P1 => have := P1.len; simp at this
    | [_], P1 => have := P1.len; simp at this
    | _ :: _ :: _ :: _, P1 => have := P1.len; simp at this
    | [v, v'], P1 =>
      refine ⟨by show 2 ≤ _; decide, fun p hp => ⟨p, [v, v'], rfl, SqT.of upd_same, rfl, v, [v'], rfl, v', [], rfl, rfl, ?_⟩⟩
      obtain ⟨h1, w1⟩ := storeK_ok w1
      obtain ⟨h2, w1⟩ := storeK_ok w1
      obtain ⟨c2, R2, B2⟩ := Rel.setTop (tvs := v' :: tvs) (tds := d' :: tds) (P1.R.ext (o := .tup [v, v']) hp) P1.bd h1
      obtain ⟨c3, R3, B3⟩ := R2.setTop B2 h2
      refine ok.nx Z1 _ _ _ c3 w1 R3 B3 ⟨by rw [List.length_set, List.length_set], fun k hk => ?_⟩
      have hk : (i == k || j == k) = false := hk
      simp only [Bool.or_eq_false_iff, beq_eq_false_iff_ne] at hk
      rw [List.getElem?_set_ne hk.2, List.getElem?_set_ne hk.1]
theorem tS_par3U {i j l : Nat} {a b e : PX} (h : tS T G np K (.par3 i j l a b e) Ds σV H) : tAsg (tTup (tTs T G np K (.cons a (.cons b (.cons e .nil))))) (gTup K 3 (gNames [i, j, l])) Ds σV H := by
  obtain ⟨N, Z, σ, tds, tvs, c, E, eK, lt, R, B, w, ex, ok⟩ := h
  refine ⟨N, Z, σ, tds, tvs, c, _, eK, lt, R, B, by rw [← ex]; exact w, fun ds σ1 vs H1 Z1 c1 w1 P1 => ?_⟩
  match ds, w1, P1 with
  | [d, d', d''], w1, P1 =>
    match vs, P1 with
    | [], P1 => have := P1.len; simp at this
    | [_], P1 => have := P1.len; simp at this
    | [_, _], P1 => have := P1.len; simp at this
    | _ :: _ :: _ :: _ :: _, P1 => have := P1.len; simp at this
    | [v, v', v''], P1 =>
      refine ⟨by show 3 ≤ _; decide, fun p hp => ⟨p, [v, v', v''], rfl, SqT.of upd_same, rfl, v, [v', v''], rfl, v', [v''], rfl, v'', [], rfl, rfl, ?_⟩⟩
      obtain ⟨h1, w1⟩ := storeK_ok w1
      obtain ⟨h2, w1⟩ := storeK_ok w1
      obtain ⟨h3, w1⟩ := storeK_ok w1
      obtain ⟨c2, R2, B2⟩ := Rel.setTop (tvs := v' :: v'' :: tvs) (tds := d' :: d'' :: tds) (P1.R.ext (o := .tup [v, v', v'']) hp) P1.bd h1
      obtain ⟨c3, R3, B3⟩ := Rel.setTop (tvs := v'' :: tvs) (tds := d'' :: tds) R2 B2 h2
      obtain ⟨c4, R4, B4⟩ := R3.setTop B3 h3
      refine ok.nx Z1 _ _ _ c4 w1 R4 B4 ⟨by rw [List.length_set, List.length_set, List.length_set], fun k hk => ?_⟩
      have hk : (i == k || (j == k || l == k)) = false := hk
      simp only [Bool.or_eq_false_iff, beq_eq_false_iff_ne] at hk
      rw [List.getElem?_set_ne hk.2.2, List.getElem?_set_ne hk.2.1, List.getElem?_set_ne hk.1]
theorem tS_augG {op : Operator} {f : Int → Int → Int} (hop : ∀ i j k, augS op i j k → k (.int (f i j))) {i : Nat} {e : PX} (h : tS T G np K (.aug i op e) Ds σV H) : tAug i (tX T G np K e) (ipI f) Ds σV H := by
  obtain ⟨N, Z, σ, tds, tvs, c, E, eK, lt, R, B, w, ex, ok⟩ := h
  unfold wpS at w
  cases e1 : σ[i]? with
  | none => simp only [e1] at w
  | some d =>
    simp only [e1] at w
    cases d <;> first | exact w.elim | skip
    rename_i a
    obtain ⟨v, ev⟩ := B.get i _ e1 (fun z => by cases z)
    have ef : (frm σV)[i]? = some v := by unfold frm; rw [List.getElem?_map, ev]; rfl
    obtain ⟨c1, c2, h1, h2, _⟩ := R.own.split2 B.fl
    obtain ⟨v', b', e2, o, _⟩ := h1.item e1
    rw [ef] at e2
    have e2 := Option.some.inj e2
    subst e2
    cases o
    refine ⟨_, ev, N, Z, σ, tds, tvs, c, _, eK, lt, R, B, by rw [← ex]; exact w, fun r σ1 v1 H1 Z1 c1 w1 P1 => ?_⟩
    match r, w1, P1 with
    | .val (.int b), w1, P1 =>
      have e3 := int_of P1.R P1.bd
      subst e3
      obtain ⟨h1, _, w2⟩ := setK_ok (hop _ _ _ w1)
      obtain ⟨c2, _, R2⟩ := P1.R.drop1 P1.bd.fl
      obtain ⟨c3, R3, B3⟩ := (R2.push0 P1.bd.fl (.int (i := f a b) .nil)).setTop P1.bd h1
      exact ⟨a, b, rfl, rfl, ok.nx Z1 H1 _ _ c3 w2 R3 B3 (.set fun j hj => by simpa [asgd] using hj)⟩
theorem tS_augA {i : Nat} {e : PX} (h : tS T G np K (.aug i .Add e) Ds σV H) : tAug i (tX T G np K e) (ipI fun i j => i + j) Ds σV H := tS_augG (op := .Add) (fun i j k (h : k (.int (i + j))) => h) h
theorem tS_augM {i : Nat} {e : PX} (h : tS T G np K (.aug i .Sub e) Ds σV H) : tAug i (tX T G np K e) (ipI fun i j => i - j) Ds σV H := tS_augG (op := .Sub) (fun i j k (h : k (.int (i - j))) => h) h
theorem asgd_ite {cc : PX} {a b : PSt} (j : Nat) (h : asgd j (.ite cc a b) = false) : asgd j a = false ∧ asgd j b = false := by
  have h : (asgd j a || asgd j b) = false := h
  exact Bool.or_eq_false_iff.mp h
theorem EnOk.mono {p q : PSt} (h : EnOk N p σV tvs tds E Ds) (hp : ∀ j, asgd j p = false → asgd j q = false) : EnOk N q σV tvs tds E Ds :=
  ⟨fun Z H σV' σ c w R B s => h.nx Z H σV' σ c w R B (s.mono hp), fun Z H σV' σ c w R B s => h.bk Z H σV' σ c w R B (s.mono hp), fun Z H σV' σ c w R B s => h.ct Z H σV' σ c w R B (s.mono hp), fun Z H σV' σ c d v w R l s => h.rt Z H σV' σ c d v w R l (s.mono hp)⟩
theorem tS_ite {cc : PX} {a b : PSt} (h : tS T G np K (.ite cc a b) Ds σV H) : tIfS (tTest (tX T G np K cc)) (tS T G np K a) (tS T G np K b) Ds σV H := by
  obtain ⟨N, Z, σ, tds, tvs, c, E, eK, lt, R, B, w, ex, ok⟩ := h
  subst eK
  refine tX_test R lt B (by rw [← ex]; exact w) (fun t σ1 H1 Z1 c1 w1 R1 B1 _ => ?_) fun r σ1 w => ?_
  · cases t with
    | true => exact ⟨N, Z1, σ1, tds, tvs, c1, E, rfl, lt, R1, B1, w1.1 rfl, ex, ok.mono fun j hj => (asgd_ite j hj).1⟩
    | false => exact ⟨N, Z1, σ1, tds, tvs, c1, E, rfl, lt, R1, B1, w1.2 rfl, ex, ok.mono fun j hj => (asgd_ite j hj).2⟩
  · match r, w with
    | .val (.bl t), _ => exact ⟨t, rfl⟩
theorem tS_whl {cc : PX} {b : PSt} (h : tS T G np K (.whl cc b) Ds σV H) : tWhile (tTest (tX T G np K cc)) (tS T G np K b) Ds σV H := by
  obtain ⟨N, Z, σ, tds, tvs, c, E, eK, lt, R, B, w, ex, ok⟩ := h
  subst eK
  obtain ⟨Inv, ⟨m0, i0⟩, turn⟩ := w
  refine ⟨fun m σV' H' => ∃ Z' σ' c', Rel N Z' H' (frm σV' ++ tvs) (σ' ++ tds) c' ∧ Bd σV' σ' ∧ stays (.whl cc b) σV σV' ∧ Inv m σ', ⟨m0, Z, σ, c, R, B, .refl, i0⟩, ?_⟩
  rintro m σV1 H1 ⟨Z1, σ1, c1, R1, B1, s1, i1⟩
  refine tX_test R1 lt B1 (by rw [← ex]; exact turn m σ1 i1) (fun t σ2 H2 Z2 c2 w2 R2 B2 _ => ?_) fun r σ1 w => ?_
  · cases t with
    | true =>
      simp only [if_true]
      refine ⟨fun σV' H' => ∃ m', m' < m ∧ ∃ Z' σ' c', Rel N Z' H' (frm σV' ++ tvs) (σ' ++ tds) c' ∧ Bd σV' σ' ∧ stays (.whl cc b) σV σV' ∧ Inv m' σ', fun _ _ q => q,
        N, Z2, σ2, tds, tvs, c2, _, rfl, lt, R2, B2, w2.1 rfl, ex, ?_, ?_, ?_, ?_⟩
      · rintro Z3 H3 σV3 σ3 c3 ⟨m', hm, i3⟩ R3 B3 s3
        exact ⟨m', hm, Z3, σ3, c3, R3, B3, s1.trans s3 fun j hj => ⟨hj, hj⟩, i3⟩
      · intro Z3 H3 σV3 σ3 c3 w3 R3 B3 s3
        exact ok.nx Z3 H3 σV3 σ3 c3 w3 R3 B3 (s1.trans s3 fun j hj => ⟨hj, hj⟩)
      · rintro Z3 H3 σV3 σ3 c3 ⟨m', hm, i3⟩ R3 B3 s3
        exact ⟨m', hm, Z3, σ3, c3, R3, B3, s1.trans s3 fun j hj => ⟨hj, hj⟩, i3⟩
      · intro Z3 H3 σV3 σ3 c3 d3 v3 w3 R3 l3 s3
        exact ok.rt Z3 H3 σV3 σ3 c3 d3 v3 w3 R3 l3 (s1.trans s3 fun j hj => ⟨hj, hj⟩)
    | false =>
      simp only [Bool.false_eq_true, if_false]
      exact ok.nx Z2 H2 σV1 σ2 c2 (w2.2 rfl) R2 B2 s1
  · match r, w with
    | .val (.bl t), _ => exact ⟨t, rfl⟩
theorem asgd_for {tg : Tg} {it : PX} {b : PSt} (j : Nat) (h : asgd j (.for_ tg it b) = false) : tgHas j tg = false ∧ asgd j b = false := by
  have h : (tgHas j tg || asgd j b) = false := h
  exact Bool.or_eq_false_iff.mp h
theorem Rel.dropM {td : List D} {tv : List V} {σV' : List (Option V)} (R : Rel N Z H (frm σV' ++ (tv ++ tvs)) (σ ++ (td ++ tds)) c) (B : Bd σV' σ) (l : tv.length = td.length) : ∃ c', Rel N Z H (frm σV' ++ tvs) (σ ++ tds) c' := by
  obtain ⟨c', _, R'⟩ := Rel.drop (us := tv) (es := td) R B.fl l
  exact ⟨c', R'⟩
theorem tS_for {tg : Tg} {it : PX} {b : PSt} (h : tS T G np K (.for_ tg it b) Ds σV H) : tFor (tI T G np K it) (tT K np tg) (tS T G np K b) Ds σV H := by
  obtain ⟨N, Z, σ, tds, tvs, c, E, eK, lt, R, B, w, ex, ok⟩ := h
  subst eK
  refine ⟨N, Z, σ, tds, tvs, c, _, rfl, lt, R, B, by rw [← ex]; exact w, fun ds st hs σ1 J H1 Z1 c1 tv td w1 l1 R1 B1 Wk1 => ?_⟩
  obtain ⟨hhs, w1⟩ := w1
  have hout : ∀ i ∈ hs, asgd i (.for_ tg it b) = false := fun i hi => by
    rw [List.all_eq_true] at hhs
    have := hhs i hi
    simp only [Bool.and_eq_true, Bool.not_eq_true'] at this
    show (tgHas i tg || asgd i b) = false
    rw [this.1, this.2]; rfl
  refine ⟨fun i m σV' H' => m = ds.length - i ∧ i ≤ ds.length ∧ ∃ Z' σ' c', Rel N Z' H' (frm σV' ++ (tv ++ tvs)) (σ' ++ (td ++ tds)) c' ∧ Bd σV' σ' ∧ stays (.for_ tg it b) σV σV' ∧
    forL st (fun d σ2 k2 => bindT np tg d σ2 fun σ3 => wpS T G np b σ3 { E with nx := k2, ct := k2, bk := E.nx }) (ds.drop i) σ' E.nx, ⟨_, rfl, Nat.zero_le _, Z1, σ1, c1, R1, B1, .refl, w1⟩, ?_⟩
  rintro i m σV' Hh ⟨rfl, hi, Zh, σ2, ch, Rh, Bh, sh, wf⟩
  have hVS : VS hs σV σV' := fun i hi => sh.2 i (hout i hi)
  cases hdr : ds.drop i with
  | nil =>
    rw [hdr] at wf
    obtain ⟨hst, wf⟩ := wf
    have hlen : ds.length ≤ i := by
      have := congrArg List.length hdr
      rw [List.length_drop] at this
      simp at this; omega
    have ei : i = ds.length := by omega
    subst ei
    obtain ⟨cf, Rf⟩ := Rh.dropM Bh l1
    exact .inl ⟨Wk1.stop [] [] _ _ Zh Hh ch rfl hVS Rh Bh hst, ok.nx Zh Hh σV' σ2 cf wf Rf Bh sh⟩
  | cons d rest =>
    rw [hdr] at wf
    obtain ⟨hst, wf⟩ := wf
    have hlt : i < ds.length := by
      have := congrArg List.length hdr
      rw [List.length_drop] at this
      simp at this; omega
    have hd : ds[i]? = some d := by
      have : (ds.drop i)[0]? = some d := by rw [hdr]; rfl
      rw [List.getElem?_drop] at this
      simpa using this
    have hrest : ds.drop (i + 1) = rest := by
      have : (ds.drop i).drop 1 = rest := by rw [hdr]; rfl
      rw [List.drop_drop] at this
      exact this
    have him : d.im = true := by
      unfold bindT at wf
      cases tg with
      | one j =>
        simp only at wf
        cases hi : d.im with
        | false => simp only [hi] at wf
        | true => rfl
      | many is =>
        simp only at wf
        cases d <;> first | exact wf.elim | rfl
    obtain ⟨go, yl⟩ := Wk1.item [] [] _ _ Zh Hh ch i d rfl hVS Rh Bh hst hd him
    refine .inr ⟨go, fun σV' H' => ∃ m', m' < ds.length - i ∧ (m' = ds.length - (i + 1) ∧ i + 1 ≤ ds.length ∧ ∃ Z' σ' c', Rel N Z' H' (frm σV' ++ (tv ++ tvs)) (σ' ++ (td ++ tds)) c' ∧ Bd σV' σ' ∧ stays (.for_ tg it b) σV σV' ∧
      forL st (fun d σ2 k2 => bindT np tg d σ2 fun σ3 => wpS T G np b σ3 { E with nx := k2, ct := k2, bk := E.nx }) (ds.drop (i + 1)) σ' E.nx), fun _ _ q => q, fun x H' hy => ?_⟩
    obtain ⟨hsame, Rx⟩ := yl x H' hy
    have lt2 : (tv ++ tvs).length = (td ++ tds).length := by simp [lt, l1]
    refine ⟨N, Zh, σ2, td ++ tds, tv ++ tvs, ch, d, _, rfl, Rx, Bh, wf, fun σV3 σ3 c3 w3 R3 B3 hl3 hj => ?_⟩
    have s3 : stays (.for_ tg it b) σV σV3 := ⟨hl3.trans sh.1, fun j hj' => (hj j (asgd_for j hj').1).trans (sh.2 j hj')⟩
    refine ⟨N, Zh, σ3, td ++ tds, tv ++ tvs, c3, _, rfl, lt2, R3, B3, w3, ex, ?_, ?_, ?_, ?_⟩
    · intro Z4 H4 σV4 σ4 c4 w4 R4 B4 s4
      exact ⟨_, by omega, rfl, hlt, Z4, σ4, c4, R4, B4, s3.trans s4 fun j hj => ⟨hj, (asgd_for j hj).2⟩, by rw [hrest]; exact w4⟩
    · intro Z4 H4 σV4 σ4 c4 w4 R4 B4 s4
      obtain ⟨cf, Rf⟩ := R4.dropM B4 l1
      exact ok.nx Z4 H4 σV4 σ4 cf w4 Rf B4 (s3.trans s4 fun j hj => ⟨hj, (asgd_for j hj).2⟩)
    · intro Z4 H4 σV4 σ4 c4 w4 R4 B4 s4
      exact ⟨_, by omega, rfl, hlt, Z4, σ4, c4, R4, B4, s3.trans s4 fun j hj => ⟨hj, (asgd_for j hj).2⟩, by rw [hrest]; exact w4⟩
    · intro Z4 H4 σV4 σ4 c4 d4 v4 w4 R4 l4 s4
      obtain ⟨cf, _, Rf⟩ := Rel.drop (fr := frm σV4 ++ [v4]) (σ := σ4 ++ [d4]) (us := tv) (es := td) (tvs := tvs) (tds := tds) (by simpa using R4) (by simp [l4]) l1
      exact ok.rt Z4 H4 σV4 σ4 cf d4 v4 w4 (by simpa using Rf) l4 (s3.trans s4 fun j hj => ⟨hj, (asgd_for j hj).2⟩)
def rSetB : TSet := fun o i v H Q => rSetL o i v H Q ∨ rSetD o i v H Q
theorem set_both {X : Cx} (hu : X.A.units + 1 < cLine) : PSet X rSetB := fun pins s σ H o i v ov iv u Q I ro ri rv h => h.elim (set_list pins s σ H o i v ov iv u Q I ro ri rv) (set_dict hu pins s σ H o i v ov iv u Q I ro ri rv)
theorem Own.updO {vs : List V} {ds : List D} {b : Cnt} {q : Addr} {o o' : HO} (h : Own K Z H vs ds b) (hb : b q = 0) (hq : H q = some o) (hs : ¬ Still Z q o) : Own K Z (upd H q o') vs ds b :=
  h.keep (fun a ha => upd_ne fun e => by subst e; omega) (fun a u e s => by
    rw [upd_ne]
    · exact e
    · rintro rfl
      rw [hq] at e
      have e := Option.some.inj e
      subst e
      exact hs s) fun _ z => z
theorem Rel.mutD {p : List Nat} {q : Addr} {ks : List Key} {es ds : List D} {us : List V} (R : Rel N Z H (frm σV ++ (us ++ (.ref q :: tvs))) (σ ++ (ds ++ (.bot :: tds))) c) (B : Bd σV σ) (hloc : locV H (frm σV) p = some (.ref q)) (hm : wayM σ p = true)
    (hd : getP σ p = some (.dct ks es)) (lus : us.length = ds.length) : ∃ (kvs : List (Key × V)) (bes bus : Cnt), H q = some (.dK kvs) ∧ kvs.map (·.1) = ks ∧ ks.Nodup ∧ Own N.K Z H (kvs.map (·.2)) es bes ∧ Own N.K Z H us ds bus ∧
      (∀ o' vs' ds' b', Own N.K Z H vs' ds' b' → (∀ a, b' a ≤ bes a + bus a) → Own N.K Z (upd H q o') vs' ds' b') ∧
      ∀ (kvs' : List (Key × V)) (es' : List D) (b' : Cnt), (kvs'.map (·.1)).Nodup → Own N.K Z (upd H q (.dK kvs')) (kvs'.map (·.2)) es' b' → (∀ a, b' a ≤ bes a + bus a) →
        ∃ c', Rel N Z (upd H q (.dK kvs')) (frm σV ++ tvs) (setP σ p (.dct (kvs'.map (·.1)) es') ++ tds) c' := by
  obtain ⟨c1, c2, h1, h2, q1⟩ := R.own.split2 B.fl
  obtain ⟨c3, c4, h3, h4, q2⟩ := h2.split2 lus
  obtain ⟨c5, c6, h5, h6, q3⟩ := h4.uncons
  obtain ⟨v0, b, r, g1, g2, g3, g4⟩ := h1.focus hd hm
  rw [hloc] at g1
  have g1 := Option.some.inj g1
  subst g1
  cases g2 with
  | dct hq hk hn ho ht =>
    cases ht
    rename_i kvs bes
    have un := R.uni
    have cq : 0 < c q := by have := q1 q; have := g3 q; simp only [one_self] at *; omega
    have nz : ¬ Z q := R.fz q cq
    have ns : ¬ Still Z q (.dK kvs) := by
      rintro (⟨_, z⟩ | ⟨_, _, z⟩ | z)
      · cases z
      · cases z
      · exact nz z
    refine ⟨kvs, bes, c3, hq, hk, hn, ho, h3, fun o' vs' ds' b' hb le => hb.updO ?_ hq ns, fun kvs' es' b' nd k1 le => ?_⟩
    · have := un q; have := q1 q; have := q2 q; have := g3 q; have := le q; simp only [one_self] at *; omega
    · have z6 : c6 q = 0 := by have := un q; have := q1 q; have := q2 q; have := q3 q; have := g3 q; simp only [one_self] at *; omega
      have h7 := g4 Z (upd H q (.dK kvs')) (.dct (kvs'.map (·.1)) es') _ (Own.dct upd_same rfl nd k1 .nil) (fun a ha => upd_ne fun e => by
        subst e
        have := un a; have := q1 a; have := g3 a; simp only [one_self] at *; omega) (fun a o e s => by
        rw [upd_ne]
        · exact e
        · rintro rfl
          rw [hq] at e
          have e := Option.some.inj e
          subst e
          exact ns s) fun _ z => z
      refine ⟨_, R.wr cq (h7.app (h6.updO z6 hq ns)) fun a => ?_⟩
      have := q1 a; have := q2 a; have := q3 a; have := g3 a; have := le a
      (try dsimp only at *); omega
theorem putK_in : ∀ {kvs : List (Key × V)} {key : Key} {n : Nat} {v : V}, (kvs.map (·.1)).Nodup → kix (kvs.map (·.1)) key = some n → (putK kvs key v).map (·.1) = kvs.map (·.1) ∧ (putK kvs key v).map (·.2) = (kvs.map (·.2)).set n v ∧ n < kvs.length := by
  intro kvs key n v nd h
  have hany : ∀ {l : List (Key × V)} {m : Nat}, kix (l.map (·.1)) key = some m → (l.any fun kv => decide (kv.1 = key)) = true ∧ m < l.length := by
    intro l m h
    unfold kix at h
    rw [List.findIdx?_eq_some_iff_getElem] at h
    obtain ⟨h1, h2, _⟩ := h
    rw [List.length_map] at h1
    refine ⟨?_, h1⟩
    rw [List.any_eq_true]
    exact ⟨l[m], List.getElem_mem h1, by simpa using h2⟩
  obtain ⟨ha, hl⟩ := hany h
  have key1 : ∀ {l : List (Key × V)} {m : Nat}, (l.map (·.1)).Nodup → kix (l.map (·.1)) key = some m → (l.map (fun kv => if kv.1 = key then (kv.1, v) else kv)).map (·.1) = l.map (·.1) ∧ (l.map (fun kv => if kv.1 = key then (kv.1, v) else kv)).map (·.2) = (l.map (·.2)).set m v := by
    intro l
    induction l with
    | nil => intro m _ h; unfold kix at h; simp at h
    | cons x l ih =>
      intro m nd h
      simp only [List.map_cons, List.nodup_cons] at nd
      unfold kix at h
      rw [List.map_cons, List.findIdx?_cons] at h
      by_cases hx : x.1 = key
      · have hd : decide (x.1 = key) = true := by simpa using hx
        rw [hd] at h
        have h := Option.some.inj h
        subst h
        have hno : ∀ y ∈ l, y.1 ≠ key := fun y hy e => nd.1 (by rw [hx, ← e]; exact List.mem_map_of_mem hy)
        have hm : l.map (fun kv => if kv.1 = key then (kv.1, v) else kv) = l := by
          conv => rhs; rw [← List.map_id l]
          exact List.map_congr_left fun y hy => by rw [if_neg (hno y hy)]; rfl
        rw [List.map_cons, hm, if_pos hx]
        exact ⟨rfl, rfl⟩
      · have hd : decide (x.1 = key) = false := by simpa using hx
        rw [hd] at h
        simp only [Bool.false_eq_true, if_false, Option.map_eq_some_iff] at h
        obtain ⟨m', h1, rfl⟩ := h
        obtain ⟨i1, i2⟩ := ih nd.2 h1
        rw [List.map_cons, if_neg hx]
        refine ⟨?_, ?_⟩
        · rw [List.map_cons, List.map_cons, i1]
        · rw [List.map_cons, List.map_cons, List.set_cons_succ, i2]
  unfold putK
  rw [if_pos ha]
  exact ⟨(key1 nd h).1, (key1 nd h).2, hl⟩
theorem putK_out {kvs : List (Key × V)} {key : Key} {v : V} (h : kix (kvs.map (·.1)) key = none) : putK kvs key v = kvs ++ [(key, v)] ∧ key ∉ kvs.map (·.1) := by
  unfold kix at h
  rw [List.findIdx?_eq_none_iff] at h
  have hno : key ∉ kvs.map (·.1) := fun hm => by
    have := h key hm
    simp at this
  refine ⟨?_, hno⟩
  unfold putK
  rw [if_neg]
  intro ha
  rw [List.any_eq_true] at ha
  obtain ⟨x, hx, e⟩ := ha
  exact hno (List.mem_map.mpr ⟨x, hx, by simpa using e⟩)
theorem tS_asgS {a i e : PX} (h : tS T G np K (.asgS a i e) Ds σV H) : tAsg (tX T G np K e) (gSub (tX T G np K a) (tX T G np K i) rSetB) Ds σV H := by
  obtain ⟨N, Z, σ, tds, tvs, c, E, eK, lt, R, B, w, ex, ok⟩ := h
  refine ⟨N, Z, σ, tds, tvs, c, _, eK, lt, R, B, by rw [← ex]; exact w, fun r σ1 v H1 Z1 c1 w1 P1 => ?_⟩
  obtain ⟨d, σ2, w2, R2, B2, _⟩ := take_ok P1.R P1.ok P1.bd w1
  cases hq : quiet a && quiet i with
  | false => simp only [hq] at w2
  | true =>
    simp only [hq] at w2
    have hq := Bool.and_eq_true_iff.mp hq
    have l2 : (v :: tvs).length = (d :: tds).length := by simp [lt]
    refine ⟨N, Z1, σ2, d :: tds, v :: tvs, c1, _, eK, l2, R2, B2, by rw [← ex]; exact w2, fun ra σ3 v3 H3 Z3 c3 w3 P3 => ?_⟩
    refine ⟨N, Z3, σ3, ra.own :: d :: tds, v3 :: v :: tvs, c3, _, eK, by simp [lt], P3.R, P3.bd, by rw [← ex]; exact w3, fun ri σ4 v4 H4 Z4 c4 w4 P4 => ?_⟩
    match ra, ri, w4, P3, P4 with
    | .ref p, .val di, w4, P3, P4 =>
      simp only at w4
      cases e1 : getP σ4 p with
      | none => simp only [e1] at w4
      | some da =>
        simp only [e1] at w4
        subst eK
        obtain ⟨q4, s4⟩ := P4.qt hq.2
        obtain ⟨a1, a2⟩ := P3.ok
        have hl4 := locV_same s4 a1
        have hm4 : wayM σ4 p = true := by rw [q4]; exact a2
        have hdi : (∃ z, di = .int z) ∨ ∃ key, keyOf di = some key := by
          cases da <;> first | exact w4.elim | skip
          · cases di <;> first | exact w4.elim | exact .inl ⟨_, rfl⟩
          · have w4 : (match keyOf di with
              | some key => _
              | none => False) := w4
            cases e9 : keyOf di with
            | none => simp only [e9] at w4
            | some key => exact .inr ⟨key, rfl⟩
        have hkx : ∃ q, v3 = .ref q := by
          obtain ⟨c5, _, R5⟩ := P4.R.drop1 P4.bd.fl
          obtain ⟨c6, c7, o1, _, _⟩ := R5.own.split2 P4.bd.fl
          obtain ⟨v0, b, rr, g1, g2, _⟩ := o1.focus e1 hm4
          rw [hl4] at g1
          have g1 := Option.some.inj g1
          subst g1
          cases da <;> first | exact w4.elim | skip
          · cases g2 with
            | lst q _ _ => exact ⟨_, rfl⟩
          · cases g2 with
            | dct q _ _ _ _ => exact ⟨_, rfl⟩
        obtain ⟨q, rfl⟩ := hkx
        have own4 : ∃ b4, Own N.K Z4 H4 [v4] [di] b4 := by
          obtain ⟨x1, x2, y1, y2, _⟩ := P4.R.own.split2 P4.bd.fl
          obtain ⟨x3, x4, y3, _, _⟩ := y2.uncons
          exact ⟨x3, y3⟩
        obtain ⟨b4, own4⟩ := own4
        obtain ⟨c5, _, R5⟩ := P4.R.drop1 P4.bd.fl
        have R6 : Rel N Z4 H4 (frm σV ++ ([v] ++ (.ref q :: tvs))) (σ4 ++ ([d] ++ (.bot :: tds))) c5 := Rel.rot (A := frm σV) (B := [.ref q]) (C := [v]) (E := tvs) (A' := σ4) (B' := [.bot]) (C' := [d]) (E' := tds) R5 P4.bd.fl rfl rfl
        cases da <;> first | exact w4.elim | skip
        · rename_i es
          cases di <;> first | exact w4.elim | skip
          rename_i z
          have e4 := int_of P4.R P4.bd
          subst e4
          obtain ⟨xs, bes, bus, hH, o1, o2, up, fin⟩ := R6.mutP P4.bd hl4 hm4 e1 rfl
          have hlen := o1.len
          have w4 : (match ixN es.length z with
            | some n => E.nx (setP σ4 p (.lst (es.set n d)))
            | none => False) := w4
          cases e5 : ixN es.length z with
          | none => simp only [e5] at w4
          | some n =>
            simp only [e5] at w4
            refine .inl ⟨q, xs, z, n, rfl, rfl, hH, by rw [hlen]; exact e5, ?_⟩
            have hn : n < es.length := (ixN_seq e5).2.1
            obtain ⟨rr, le, f⟩ := o1.setv hn
            obtain ⟨cf, Rf⟩ := fin (xs.set n v) (es.set n d) (fun a => bus a + rr a) (fun _ => 0) .non .non (up _ _ _ _ (f v d bus o2) fun a => by have := le a; (try dsimp only); omega) (.non .nil) fun a => by have := le a; (try dsimp only); omega
            obtain ⟨cg, _, Rg⟩ := Rel.drop1 Rf (by rw [setP_len]; exact P4.bd.fl)
            exact ok.nx Z4 _ σV _ cg w4 Rg (P4.bd.setP e1 (fun z => by cases z) hm4) .refl
        · rename_i ks es
          obtain ⟨kvs, bes, bus, hH, hk, hnd, o1, o2, up, fin⟩ := R6.mutD P4.bd hl4 hm4 e1 rfl
          have hlen := o1.len
          subst hk
          have w4 : (match keyOf di with
            | some key => (match kix (kvs.map (·.1)) key with
              | some n => (kvs.map (·.1)).length < big ∧ E.nx (setP σ4 p (.dct (kvs.map (·.1)) (es.set n d)))
              | none => (kvs.map (·.1)).length < big ∧ E.nx (setP σ4 p (.dct (kvs.map (·.1) ++ [key]) (es ++ [d]))))
            | none => False) := w4
          cases e9 : keyOf di with
          | none => simp only [e9] at w4
          | some key =>
            simp only [e9] at w4
            have e10 := keyOf_v own4 e9
            subst e10
            refine .inr ⟨q, _, rfl, .inl ⟨kvs, key, hH, rfl, ?_, rfl⟩, ?_⟩
            · cases e5 : kix (kvs.map (·.1)) key with
              | none => simp only [e5] at w4; have := w4.1; rw [List.length_map] at this; exact this
              | some n => simp only [e5] at w4; have := w4.1; rw [List.length_map] at this; exact this
            · cases e5 : kix (kvs.map (·.1)) key with
              | none =>
                simp only [e5] at w4
                obtain ⟨p1, p2⟩ := putK_out (v := v) e5
                rw [p1]
                obtain ⟨cf, Rf⟩ := fin (kvs ++ [(key, v)]) (es ++ [d]) (fun a => bes a + bus a) (by rw [List.map_append]; exact List.nodup_append.mpr ⟨hnd, by simp, fun x hx y hy e => by
                  have hy : y = key := by simpa using hy
                  subst hy
                  subst e
                  exact p2 hx⟩) (by
                    rw [List.map_append]
                    exact up _ _ _ _ (o1.app o2) fun a => Nat.le_refl _) fun a => Nat.le_refl _
                have w5 := w4.2
                rw [List.map_append] at Rf
                exact ok.nx Z4 _ σV _ cf w5 Rf (P4.bd.setP e1 (fun z => by cases z) hm4) .refl
              | some n =>
                simp only [e5] at w4
                obtain ⟨p1, p2, p3⟩ := putK_in (v := v) hnd e5
                have hn : n < es.length := by rw [← hlen, List.length_map]; exact p3
                obtain ⟨rr, le, f⟩ := o1.setv hn
                obtain ⟨cf, Rf⟩ := fin (putK kvs key v) (es.set n d) (fun a => bus a + rr a) (by rw [p1]; exact hnd) (by
                    rw [p2]
                    exact up _ _ _ _ (f v d bus o2) fun a => by have := le a; (try dsimp only); omega) fun a => by have := le a; (try dsimp only); omega
                have w5 := w4.2
                rw [p1] at Rf
                exact ok.nx Z4 _ σV _ cf w5 Rf (P4.bd.setP e1 (fun z => by cases z) hm4) .refl
/-! ### a def -/
theorem outs_own {Z : Addr → Prop} {H : Hp} : ∀ {ds σ : List D} {vs fr : List V} {c : Cnt}, Own K Z H fr σ c → vs.length = ds.length → ds.length ≤ σ.length → (∀ (i : Nat) (d : D), ds[i]? = some d → d.im = false → fr[i]? = vs[i]?) →
    ∃ c', Own K Z H vs (outsD ds σ) c' ∧ ∀ a, c' a ≤ c a
  | [], σ, vs, fr, c, h, l, _, _ => by
    have : vs = [] := List.eq_nil_of_length_eq_zero l
    subst this
    exact ⟨fun _ => 0, by cases σ <;> exact .nil, fun a => Nat.zero_le _⟩
  | d :: ds, [], vs, fr, c, h, l, l2, _ => by simp at l2
  | d :: ds, s :: σ, vs, fr, c, h, l, l2, hi => by
    cases vs with
    | nil => simp at l
    | cons v vs =>
      cases fr with
      | nil => have := h.len; simp at this
      | cons f fr =>
        obtain ⟨c1, c2, h1, h2, q⟩ := h.uncons
        obtain ⟨c3, h3, q3⟩ := outs_own h2 (by simpa using l) (by simpa using l2) fun i d e n => by simpa using hi (i + 1) d (by simpa using e) n
        unfold outsD
        cases hm : d.im with
        | true => exact ⟨_, (Own.bot (v := v) .nil).cons h3, fun a => by have := q a; have := q3 a; (try dsimp only); omega⟩
        | false =>
          have e := hi 0 d rfl hm
          have e : f = v := by simpa using e
          subst e
          exact ⟨_, h1.cons h3, fun a => by have := q a; have := q3 a; (try dsimp only); omega⟩
theorem own_bots {Z : Addr → Prop} {H : Hp} : ∀ {n : Nat}, Own K Z H (List.replicate n V.non) (List.replicate n .bot) fun _ => 0
  | 0 => .nil
  | n + 1 => .bot own_bots
theorem frm_start {Nm : List Str} {vs : List V} : frm (L2.start Nm vs) = vs ++ List.replicate (Nm.length - vs.length) V.non := by
  unfold frm L2.start
  rw [List.map_append, List.map_map, List.map_replicate]
  congr 1
  induction vs with
  | nil => rfl
  | cons v vs ih => rw [List.map_cons, ih]; rfl
theorem wpF_start {nl : Nat} {Nm : List Str} {vs : List V} {Q : VK} {body : PSt} (hn : Nm.length = np + nl) (h : spOf K (wpF T G np nl body) vs H Q) :
    tS T G np K body { nx := fun _ H' => Q .non H', rt := Q } (L2.start Nm vs) H := by
  obtain ⟨Z, ds, c, kk, R, ⟨⟨hl, hp⟩, w⟩, fin⟩ := h
  have lv : vs.length = ds.length := R.own.len
  have el : Nm.length - vs.length = nl := by omega
  have hst : ∀ {σV' : List (Option V)}, stays body (L2.start Nm vs) σV' → ∀ (i : Nat) (d : D), ds[i]? = some d → d.im = false → (frm σV')[i]? = vs[i]? := fun {σV'} s i d e n => by
    have hi : i < ds.length := (List.getElem?_eq_some_iff.mp e).1
    have ha : asgd i body = false := by
      cases q : asgd i body with
      | false => rfl
      | true =>
        rw [List.all_eq_true] at hp
        have := hp i (by unfold stPar; rw [List.mem_filter, List.mem_range]; exact ⟨by omega, q⟩)
        unfold imAt at this
        rw [e] at this
        rw [show d.im = true from this] at n
        cases n
    unfold frm
    rw [List.getElem?_map, s.2 i ha]
    unfold L2.start
    rw [List.getElem?_append_left (by rw [List.length_map]; omega), List.getElem?_map]
    cases vs[i]? <;> rfl
  have go : ∀ (d : D) (v : V) (Z' : Addr → Prop) (H' : Hp) (σV' : List (Option V)) (σ' : List D) (c' : Cnt), kk d (outsD ds σ') → Rel ⟨K, Z, H, c⟩ Z' H' (frm σV' ++ [v]) (σ' ++ [d]) c' → (frm σV').length = σ'.length → stays body (L2.start Nm vs) σV' → Q v H' := fun d v Z' H' σV' σ' c' hk R' l' s => by
    obtain ⟨c1, c2, h1, h2, q⟩ := R'.own.split2 l'
    have lσ : ds.length ≤ σ'.length := by
      rw [← l']
      unfold frm
      rw [List.length_map, s.1]
      unfold L2.start
      rw [List.length_append, List.length_map]
      omega
    obtain ⟨c3, h3, q3⟩ := outs_own h1 lv lσ (hst s)
    exact fin d _ v H' Z' _ hk (R'.re (h2.cons h3) fun a => by have := q a; have := q3 a; (try dsimp only); omega)
  refine ⟨⟨K, Z, H, c⟩, Z, ds ++ List.replicate nl .bot, [], [], c, _, rfl, rfl, ?_, ⟨?_, fun i d e n => ?_⟩, w, rfl, ?_, ?_, ?_, ?_⟩
  · rw [List.append_nil, List.append_nil, frm_start, el]
    exact R.re ((R.own.app own_bots).cast (c' := c) fun a => by simp) fun _ => Nat.le_refl _
  · unfold L2.start
    rw [List.length_append, List.length_append, List.length_map, List.length_replicate, List.length_replicate, el, lv]
  · unfold L2.start
    by_cases hi : i < ds.length
    · rw [List.getElem?_append_left (by rw [List.length_map]; omega), List.getElem?_map]
      obtain ⟨v, hv⟩ : ∃ v, vs[i]? = some v := ⟨vs[i]'(by omega), List.getElem?_eq_getElem (by omega)⟩
      exact ⟨v, by rw [hv]; rfl⟩
    · rw [List.getElem?_append_right (by omega)] at e
      exact absurd (List.eq_of_mem_replicate (List.mem_of_getElem? e)) n
  · intro Z1 H1 σV1 σ1 c1 w1 R1 B1 s1
    exact go .non .non Z1 H1 σV1 σ1 c1 w1 (by simpa using (Rel.push0 (tvs := []) (tds := []) R1 B1.fl (.non .nil))) B1.fl s1
  · intro Z1 H1 σV1 σ1 c1 w1 R1 B1 s1
    exact w1.elim
  · intro Z1 H1 σV1 σ1 c1 w1 R1 B1 s1
    exact w1.elim
  · intro Z1 H1 σV1 σ1 c1 d1 v1 w1 R1 l1 s1
    exact go d1 v1 Z1 H1 σV1 σ1 c1 w1 R1 l1 s1
end
end MP

set_option Elab.async false
set_option linter.all false
set_option maxRecDepth 100000
set_option maxHeartbeats 1000000
/-! Dict comprehensions, d.get. -/
namespace MP
open PySem PySem.Spec PyProof.Rows L2
section
variable {T : List FnS} {G : List D} {np : Nat} {K : W.Frag} {N : Ent} {Z : Addr → Prop} {H : Hp} {σV : List (Option V)} {σ tds : List D} {tvs : List V} {c : Cnt} {Q : VK}
theorem putD_none {ks : List Key} {es : List MP.D} {key : Key} {dy : MP.D} (e : kix ks key = none) : putD key dy (ks, es) = (ks ++ [key], es ++ [dy]) := by
  show (match kix ks key with
    | some n => (ks, es.set n dy)
    | none => (ks ++ [key], es ++ [dy])) = _
  rw [e]
theorem putD_some {ks : List Key} {es : List MP.D} {key : Key} {dy : MP.D} {n : Nat} (e : kix ks key = some n) : putD key dy (ks, es) = (ks, es.set n dy) := by
  show (match kix ks key with
    | some n => (ks, es.set n dy)
    | none => (ks ++ [key], es ++ [dy])) = _
  rw [e]
theorem putD_ok {kvs : List (Key × V)} {es : List MP.D} {key : Key} {y : V} {dy : MP.D} {b b' : Cnt} (hn : (kvs.map (·.1)).Nodup) (h : Own K Z H (kvs.map (·.2)) es b) (h' : Own K Z H [y] [dy] b') :
    (putK kvs key y).map (·.1) = (putD key dy (kvs.map (·.1), es)).1 ∧ (putD key dy (kvs.map (·.1), es)).1.Nodup ∧ ∃ c, Own K Z H ((putK kvs key y).map (·.2)) (putD key dy (kvs.map (·.1), es)).2 c ∧ ∀ a, c a ≤ b a + b' a := by
  cases e5 : kix (kvs.map (·.1)) key with
  | none =>
    obtain ⟨p1, p2⟩ := putK_out (v := y) e5
    rw [p1, putD_none e5]
    refine ⟨by simp, ?_, _, ?_, fun a => Nat.le_refl _⟩
    · simp only []
      exact List.nodup_append.mpr ⟨hn, by simp, fun x hx y hy e => by
        have hy : y = key := by simpa using hy
        subst hy
        subst e
        exact p2 hx⟩
    · simp only []
      rw [List.map_append]
      exact h.app h'
  | some n =>
    obtain ⟨p1, p2, p3⟩ := putK_in (v := y) hn e5
    have hl := h.len
    have hn' : n < es.length := by rw [← hl, List.length_map]; exact p3
    obtain ⟨rr, le, f⟩ := h.setv hn'
    rw [putD_some e5]
    refine ⟨p1, hn, fun a => b' a + rr a, ?_, fun a => by have := le a; (try dsimp only); omega⟩
    simp only []
    rw [p2]
    exact f y dy b' h'
/-- a new dict gets an entry -/
theorem Rel.tmpPut {D : Addr} {y : V} {dy : MP.D} {ks : List Key} {es : List MP.D} (key : Key) (R : Rel N Z H (frm σV ++ (y :: (.ref D :: tvs))) (σ ++ (dy :: (.dct ks es :: tds))) c) (B : Bd σV σ) :
    ∃ kvs, H D = some (.dK kvs) ∧ kvs.length = ks.length ∧ ∃ c', Rel N Z (upd H D (.dK (putK kvs key y))) (frm σV ++ (.ref D :: tvs)) (σ ++ (.dct (putD key dy (ks, es)).1 (putD key dy (ks, es)).2 :: tds)) c' := by
  obtain ⟨c1, c2, h1, h2, q1⟩ := R.own.split2 B.fl
  obtain ⟨c3, c4, h3, h4, q2⟩ := h2.uncons
  obtain ⟨c5, c6, h5, h6, q3⟩ := h4.uncons
  cases h5 with
  | dct hq hk hn ho ht =>
    cases ht
    rename_i kvs bes
    subst hk
    have un := R.uni
    have cq : 0 < c D := by have := q1 D; have := q2 D; have := q3 D; simp only [one_self] at *; omega
    have nz : ¬ Z D := R.fz D cq
    have u1 := un D
    have u2 := q1 D
    have u3 := q2 D
    have u4 := q3 D
    simp only [one_self] at u4
    have upq : ∀ {vs' : List V} {ds' : List MP.D} {b0 : Cnt}, Own N.K Z H vs' ds' b0 → b0 D = 0 → Own N.K Z (upd H D (.dK (putK kvs key y))) vs' ds' b0 := fun h e =>
      h.keep (fun a ha => upd_ne fun z => by subst z; omega) (fun a o e' s => by
        rw [upd_ne]
        · exact e'
        · rintro rfl
          rw [hq] at e'
          have e' := Option.some.inj e'
          subst e'
          rcases s with ⟨_, z⟩ | ⟨_, _, z⟩ | z
          · cases z
          · cases z
          · exact nz z) fun _ z => z
    obtain ⟨p1, p2, cc, p3, p4⟩ := putD_ok (key := key) hn (upq ho (by omega)) (upq h3 (by omega))
    refine ⟨kvs, hq, by rw [List.length_map], _, R.wr cq ((upq h1 (by omega)).app ((Own.dct upd_same p1 p2 p3 .nil).cons (upq h6 (by omega)))) fun a => ?_⟩
    have := q1 a; have := q2 a; have := q3 a; have := p4 a
    (try dsimp only at *); omega
theorem tX_dc {kx vx it cond : PX} {tg : Tg} {vs : List Nat} (hvs : ∀ j, tgHas j tg = true → j ∈ vs) (h : tX T G np K (.dc kx vx tg it cond vs) σV H Q) :
    tDc (tI T G np K it) (tT K np tg) (tTest (tX T G np K cond)) (tX T G np K kx) (tX T G np K vx) vs σV H Q := by
  obtain ⟨N, Z, σ, tds, tvs, c, kk, e, lt, R, B, w, k⟩ := h
  refine ⟨N, Z, σ, tds, tvs, c, _, e, lt, R, B, w, fun ds st hs σ1 J H1 Z1 c1 tv td w1 l1 R1 B1 Wk1 => ?_⟩
  intro D hD
  obtain ⟨hhs, w1⟩ := w1
  have hout : ∀ i ∈ hs, i ∉ vs := fun i hi => by
    rw [List.all_eq_true] at hhs
    simpa using hhs i hi
  have hVS : VS hs σV (wipe σV vs) := fun i hi => by rw [wipe_get, if_neg (hout i hi)]
  obtain ⟨c2, R2, B2⟩ := R1.wiped (vs := vs) B1
  subst e
  have R3 := Rel.newDct0 (kvs := []) (es := []) (tvs := tv ++ tvs) (tds := td ++ tds) R2 B2.fl hD List.nodup_nil .nil
  refine ⟨fun i m Hh => m = ds.length - i ∧ i ≤ ds.length ∧ ∃ (Zh : Addr → Prop) (σ2 : List MP.D) (ch : Cnt) (acc : List Key × List MP.D), Rel N Zh Hh (frm (wipe σV vs) ++ (.ref D :: (tv ++ tvs))) (σ2 ++ (.dct acc.1 acc.2 :: (td ++ tds))) ch ∧ Bd (wipe σV vs) σ2 ∧ wipeD σ2 vs = σ2 ∧
      forD st (fun d σ2 k2 => bindT np tg d σ2 fun σ3 => wpX T G np cond σ3 (fun rc σ4 => match rc with
      | .val (.bl t) => br t (wpX T G np kx σ4 (fun rk σ5 => match rk with
        | .val dk => (match keyOf dk with
          | some key => wpX T G np vx σ5 (fun re σ6 => take re σ6 fun y σ7 => k2 (some (key, y)) (wipeD σ7 vs)) noX
          | none => False)
        | _ => False) noX) (k2 none (wipeD σ4 vs))
      | _ => False) noX) (ds.drop i) acc σ2 fun acc σ' => kk (.val (.dct acc.1 acc.2)) σ', ⟨_, rfl, Nat.zero_le _, Z1, _, _, ([], []), R3, B2, wipeD_idem, w1⟩, ?_⟩
  rintro i m Hh ⟨rfl, hi, Zh, σ2, ch, acc, Rh, Bh, hw, wf⟩
  cases hdr : ds.drop i with
  | nil =>
    rw [hdr] at wf
    obtain ⟨hst, wf⟩ := wf
    have hlen : ds.length ≤ i := by
      have := congrArg List.length hdr
      rw [List.length_drop] at this
      simp at this; omega
    have ei : i = ds.length := by omega
    subst ei
    refine .inl ⟨Wk1.stop [.ref D] [.dct acc.1 acc.2] _ _ Zh Hh ch rfl hVS Rh Bh hst, ?_⟩
    obtain ⟨Ru, Bu⟩ := Rh.unwiped Bh hw
    have Rr := Rel.rot (A := frm σV) (B := [.ref D]) (C := tv) (E := tvs) (A' := σ2) (B' := [.dct acc.1 acc.2]) (C' := td) (E' := tds) Ru Bu.fl rfl l1
    obtain ⟨cf, _, Rf⟩ := Rel.drop (us := tv) (es := td) (tvs := .ref D :: tvs) (tds := .dct acc.1 acc.2 :: tds) Rr Bu.fl l1
    exact k (.val (.dct acc.1 acc.2)) σ2 _ Hh Zh cf wf ⟨Rf, trivial, Bu, fun z => by cases z⟩
  | cons d rest =>
    rw [hdr] at wf
    obtain ⟨hst, wf⟩ := wf
    have hlt : i < ds.length := by
      have := congrArg List.length hdr
      rw [List.length_drop] at this
      simp at this; omega
    have hd : ds[i]? = some d := by
      have : (ds.drop i)[0]? = some d := by rw [hdr]; rfl
      rw [List.getElem?_drop] at this
      simpa using this
    have hrest : ds.drop (i + 1) = rest := by
      have : (ds.drop i).drop 1 = rest := by rw [hdr]; rfl
      rw [List.drop_drop] at this
      exact this
    have him : d.im = true := by
      unfold bindT at wf
      cases tg with
      | one j =>
        simp only at wf
        cases hi : d.im with
        | false => simp only [hi] at wf
        | true => rfl
      | many is =>
        simp only at wf
        cases d <;> first | exact wf.elim | rfl
    obtain ⟨go, yl⟩ := Wk1.item [.ref D] [.dct acc.1 acc.2] _ _ Zh Hh ch i d rfl hVS Rh Bh hst hd him
    refine .inr ⟨go, fun H' => ∃ m', m' < ds.length - i ∧ (m' = ds.length - (i + 1) ∧ i + 1 ≤ ds.length ∧ ∃ (Zh : Addr → Prop) (σ2 : List MP.D) (ch : Cnt) (acc : List Key × List MP.D), Rel N Zh H' (frm (wipe σV vs) ++ (.ref D :: (tv ++ tvs))) (σ2 ++ (.dct acc.1 acc.2 :: (td ++ tds))) ch ∧ Bd (wipe σV vs) σ2 ∧ wipeD σ2 vs = σ2 ∧
      forD st (fun d σ2 k2 => bindT np tg d σ2 fun σ3 => wpX T G np cond σ3 (fun rc σ4 => match rc with
      | .val (.bl t) => br t (wpX T G np kx σ4 (fun rk σ5 => match rk with
        | .val dk => (match keyOf dk with
          | some key => wpX T G np vx σ5 (fun re σ6 => take re σ6 fun y σ7 => k2 (some (key, y)) (wipeD σ7 vs)) noX
          | none => False)
        | _ => False) noX) (k2 none (wipeD σ4 vs))
      | _ => False) noX) (ds.drop (i + 1)) acc σ2 fun acc σ' => kk (.val (.dct acc.1 acc.2)) σ'), fun H' q => q, fun x H' hy => ?_⟩
    obtain ⟨hsame, Rx⟩ := yl x H' hy
    refine ⟨N, Zh, σ2, .dct acc.1 acc.2 :: (td ++ tds), .ref D :: (tv ++ tvs), ch, d, _, rfl, Rx, Bh, wf, fun σV3 σ3 c3 w3 R3 B3 hl3 hj => ?_⟩
    have hwp : wipe σV3 vs = wipe σV vs := by
      rw [← wipe_idem (σ := σV)]
      refine wipe_ext hl3 fun j hjv => hj j ?_
      cases q : tgHas j tg with
      | false => rfl
      | true => exact absurd (hvs j q) hjv
    have lt3 : (V.ref D :: (tv ++ tvs)).length = (MP.D.dct acc.1 acc.2 :: (td ++ tds)).length := by simp [lt, l1]
    refine ⟨hwp, tX_test R3 lt3 B3 w3 (fun t σ4 H4 Z4 c4 w4 R4 B4 _ => ?_) fun r σ1 w => ?_⟩
    · cases t with
      | false =>
        simp only [Bool.false_eq_true, if_false]
        obtain ⟨c5, R5, B5⟩ := R4.wiped (vs := vs) B4
        rw [hwp] at R5 B5
        exact ⟨_, by omega, rfl, hlt, Z4, _, c5, acc, R5, B5, wipeD_idem, by rw [hrest]; exact w4.2 rfl⟩
      | true =>
        simp only [if_true]
        refine ⟨N, Z4, σ4, .dct acc.1 acc.2 :: (td ++ tds), .ref D :: (tv ++ tvs), c4, _, rfl, lt3, R4, B4, w4.1 rfl, fun rk σ5 yk H5 Z5 c5 w5 P5 => ?_⟩
        match rk, w5, P5 with
        | .val dk, w5, P5 =>
          have w5 : (match keyOf dk with
            | some key => _
            | none => False) := w5
          cases ek : keyOf dk with
          | none => rw [ek] at w5; exact w5.elim
          | some key =>
            rw [ek] at w5
            obtain ⟨g1, g2, o1, o2, _⟩ := P5.R.own.split2 P5.bd.fl
            obtain ⟨g3, g4, o3, o4, _⟩ := o2.uncons
            have hkey := keyOf_v (show Own N.K Z5 H5 [yk] [dk] g3 from o3) ek
            subst hkey
            obtain ⟨c6, _, R6⟩ := P5.R.drop1 P5.bd.fl
            refine ⟨N, Z5, σ5, .dct acc.1 acc.2 :: (td ++ tds), .ref D :: (tv ++ tvs), c6, _, rfl, lt3, R6, P5.bd, w5, fun re σ6 y H6 Z6 c7 w6 P6 => ?_⟩
            obtain ⟨dy, σ7, w7, R7, B7, _⟩ := take_ok P6.R P6.ok P6.bd w6
            obtain ⟨kvs, hD, hl, c8, R8⟩ := R7.tmpPut key B7
            refine ⟨kvs, key, rfl, hD, by rw [hl]; exact w7.1, ?_⟩
            obtain ⟨c9, R9, B9⟩ := R8.wiped (vs := vs) B7
            rw [hwp] at R9 B9
            exact ⟨_, by omega, rfl, hlt, Z6, _, c9, _, R9, B9, wipeD_idem, by rw [hrest]; exact w7.2⟩
    · match r, w with
      | .val (.bl t), _ => exact ⟨t, rfl⟩
theorem dctO {o : Option MP.D} (h : isDct o = true) : ∃ ks xs, o = some (.dct ks xs) := by
  cases o with
  | none => cases h
  | some d => cases d <;> first | (cases h; done) | exact ⟨_, _, rfl⟩
theorem tX_dget {a i b : PX} (h : tX T G np K (.dget a i b) σV H Q) : tDGet2 (tX T G np K a) (tX T G np K i) (tX T G np K b) σV H Q := by
  obtain ⟨N, Z, σ, tds, tvs, c, kk, e, lt, R, B, w, k⟩ := h
  refine ⟨N, Z, σ, tds, tvs, c, _, e, lt, R, B, w, fun ra σ1 v1 H1 Z1 c1 w1 P1 => ?_⟩
  cases e1 : isDct (rd σ1 ra) with
  | false => simp only [e1] at w1
  | true =>
    simp only [e1] at w1
    obtain ⟨ks, xs, er⟩ := dctO e1
    obtain ⟨b1, o1, _⟩ := P1.R.peek P1.bd.fl (fun e q => own_val q) P1.ok er
    obtain ⟨p, kvs1, rfl, hp, _⟩ := dct_of o1 (rfl : dctK (.dct ks xs) = some ks)
    refine ⟨p, rfl, .inl ⟨kvs1, hp⟩, N, Z1, σ1, ra.own :: tds, .ref p :: tvs, c1, _, e, by simp [lt], P1.R, P1.bd, w1, fun ri σ2 v2 H2 Z2 c2 w2 P2 => ?_⟩
    refine ⟨N, Z2, σ2, ri.own :: ra.own :: tds, v2 :: .ref p :: tvs, c2, _, e, by simp [lt], P2.R, P2.bd, w2, fun rb σ3 v3 H3 Z3 c3 w3 P3 => ?_⟩
    cases q : ok2 ra i && ok2 ra b with
    | false => simp only [q] at w3
    | true =>
      simp only [q] at w3
      have q := Bool.and_eq_true_iff.mp q
      have k1 : RVok σ3 H3 (frm σV) (.ref p) ra := (P1.ok.later q.1 P2.qt).later q.2 P3.qt
      match hr : rd σ3 ra, ri, rb, w3, P3 with
      | some (.dct ks2 xs2), .val di, .val db, w3, P3 =>
        have w3 : (match keyOf di with
          | some key => (match kix ks2 key with
            | some n => (match xs2[n]? with
              | some e => e.im = true ∧ kk (.val e) σ3
              | none => False)
            | none => db.im = true ∧ kk (.val db) σ3)
          | none => False) := w3
        cases ek : keyOf di with
        | none => rw [ek] at w3; exact w3.elim
        | some key =>
          rw [ek] at w3
          have w3 : (match kix ks2 key with
            | some n => (match xs2[n]? with
              | some e => e.im = true ∧ kk (.val e) σ3
              | none => False)
            | none => db.im = true ∧ kk (.val db) σ3) := w3
          obtain ⟨g1, g2, u1, u2, _⟩ := P3.R.own.split2 P3.bd.fl
          obtain ⟨g3, g4, u3, u4, _⟩ := u2.uncons
          obtain ⟨g5, g6, u5, u6, _⟩ := u4.uncons
          have hkey := keyOf_v (show Own N.K Z3 H3 [v2] [di] g5 from u5) ek
          subst hkey
          obtain ⟨c4, _, R4⟩ := P3.R.drop1 P3.bd.fl
          obtain ⟨c5, _, R5⟩ := R4.drop1 P3.bd.fl
          obtain ⟨b2, o2, _⟩ := R5.peek P3.bd.fl (fun e q => own_val q) k1 hr
          obtain ⟨c6, _, R6⟩ := R5.drop1 P3.bd.fl
          have F := fin_of (qt := quiet (.dget a i b)) (σ0 := σ) (H0 := H) R6 P3.bd (fun z => by cases z) k
          cases o2 with
          | @dct _ kvs _ _ bb _ _ _ hq hk hn ho ht =>
            subst hk
            refine ⟨_, DGet.k hq, ?_⟩
            cases e5 : kix (kvs.map (·.1)) key with
            | none =>
              rw [e5] at w3
              rw [valV_none e5]
              exact F.im db v3 w3.2 (Own.im1 (show Own N.K Z3 H3 [v3] [db] g3 from u3) w3.1)
            | some n =>
              rw [e5] at w3
              have w3 : (match xs2[n]? with
                | some e => e.im = true ∧ kk (.val e) σ3
                | none => False) := w3
              obtain ⟨u', f1, f2⟩ := valV_kix e5
              cases e6 : xs2[n]? with
              | none => rw [e6] at w3; exact w3.elim
              | some e0 =>
                rw [e6] at w3
                obtain ⟨u, b', f3, f4, _⟩ := ho.item e6
                rw [f1] at f3
                have f3 := Option.some.inj f3
                subst f3
                rw [f2]
                exact F.im e0 u' w3.2 (f4.im1 w3.1)
/-! ### a dict that is walked -/
theorem Rel.self {vs : List V} {ds : List MP.D} (R : Rel N Z H vs ds c) : Rel ⟨N.K, Z, H, c⟩ Z H vs ds c := R.enter R.own fun _ => Nat.le_refl _
theorem rd_inj {p : Addr} {kvs kvs' : List (Key × V)} (h : Rd H p (.dK kvs)) (h' : Rd H p (.dK kvs')) : kvs' = kvs := by
  rcases h with h | ⟨o, h⟩ <;> rcases h' with h' | ⟨o', h'⟩ <;> rw [h] at h' <;> cases h' <;> rfl
/-- a frozen dict's object changes its dress -/
theorem Own.swapD {Z' : Addr → Prop} {H' : Hp} {p : Addr} {kvs : List (Key × V)} {vs : List V} {ds : List MP.D} (h : Own K Z H vs ds c) (he : ∀ a, a ≠ p → H' a = H a) (hz : ∀ a, Z a → Z' a) (hp : Rd H p (.dK kvs)) (hp' : FzD Z' H' p kvs) (hc : c p = 0) : Own K Z' H' vs ds c := by
  have ne : ∀ {q : Addr} {u : HO}, H q = some u → (∀ kvs, u ≠ .dK kvs) → (∀ o kvs, u ≠ .frz o (.dK kvs)) → q ≠ p := fun {q u} e h1 h2 z => by
    subst z
    rcases hp with hp | ⟨o, hp⟩
    · rw [e] at hp; exact h1 _ (Option.some.inj hp)
    · rw [e] at hp; exact h2 _ _ (Option.some.inj hp)
  induction h with
  | nil => exact .nil
  | bot _ ih => exact .bot (ih hc)
  | non _ ih => exact .non (ih hc)
  | bl _ ih => exact .bl (ih hc)
  | int _ ih => exact .int (ih hc)
  | str _ ih => exact .str (ih hc)
  | pr q _ _ i1 i2 =>
    refine .pr ?_ (i1 rfl) (i2 hc)
    rcases q with (q | ⟨o, q⟩) | q
    · exact .inl (.inl ((he _ (ne q (fun _ z => by cases z) (fun _ _ z => by cases z))).trans q))
    · exact .inl (.inr ⟨o, (he _ (ne q (fun _ z => by cases z) (fun _ _ z => by cases z))).trans q⟩)
    · exact .inr q
  | tup q _ _ i1 i2 =>
    refine .tup ?_ (i1 rfl) (i2 hc)
    rcases q with ⟨o, h0, q⟩ | q
    · exact .inl ⟨o, h0, (he _ (ne q (fun _ z => by cases z) (fun _ _ z => by cases z))).trans q⟩
    · exact .inr q
  | fl q _ _ i1 i2 =>
    refine .fl ?_ (i1 rfl) (i2 hc)
    rcases q with ⟨q, z⟩ | ⟨o, q⟩ | q
    · exact .inl ⟨(he _ (ne q (fun _ z => by cases z) (fun _ _ z => by cases z))).trans q, hz _ z⟩
    · exact .inr (.inl ⟨o, (he _ (ne q (fun _ z => by cases z) (fun _ _ z => by cases z))).trans q⟩)
    · exact .inr (.inr q)
  | fd q hk hn _ _ i1 i2 =>
    rename_i p' kvs' _ _ _ _ _ _ _
    refine .fd ?_ hk hn (i1 rfl) (i2 hc)
    by_cases e : p' = p
    · subst e
      rw [rd_inj hp q.rd]
      exact hp'
    · rcases q with ⟨o, q⟩ | ⟨q, z⟩
      · exact .inl ⟨o, (he _ e).trans q⟩
      · exact .inr ⟨(he _ e).trans q, hz _ z⟩
  | lst q _ _ i1 i2 =>
    rename_i p' _ _ b _ _ c' _ _
    have hc : (one p' p + b p) + c' p = 0 := hc
    refine .lst ((he _ (ne q (fun _ z => by cases z) (fun _ _ z => by cases z))).trans q) (i1 (by omega)) (i2 (by omega))
  | dct q hk hn _ _ i1 i2 =>
    rename_i p' _ _ _ b _ _ c' _ _
    have hc : (one p' p + b p) + c' p = 0 := hc
    have e : p' ≠ p := fun e => by subst e; rw [one_self] at hc; omega
    exact .dct ((he _ e).trans q) hk hn (i1 (by omega)) (i2 (by omega))
theorem Rel.freeze {i : Nat} {ks : List Key} {xs : List MP.D} (R : Rel N Z H (frm σV ++ tvs) (σ ++ tds) c) (B : Bd σV σ) (e : σ[i]? = some (.dct ks xs)) (hi : imAll xs = true) :
    ∃ p kvs c', (frm σV)[i]? = some (.ref p) ∧ H p = some (.dK kvs) ∧ kvs.map (·.1) = ks ∧ Rel N (fun a => Z a ∨ a = p) H (frm σV ++ tvs) (σ.set i (.fd ks xs) ++ tds) c' := by
  obtain ⟨c1, c2, h1, h2, q1⟩ := R.own.split2 B.fl
  obtain ⟨v, b, r, e1, hv, q2, f⟩ := h1.at e
  cases hv with
  | dct q hk hn o t =>
    cases t
    rename_i p kvs bb
    have un := R.uni p
    have u1 := q1 p
    have u2 := q2 p
    simp only [one_self] at u2
    have cp : 0 < c p := by omega
    have up : ∀ {vs : List V} {ds : List MP.D} {b : Cnt}, Own N.K Z H vs ds b → Own N.K (fun a => Z a ∨ a = p) H vs ds b := fun h => h.keep (fun _ _ => rfl) (fun _ _ e _ => e) fun _ z => .inl z
    have h9 := f (fun a => Z a ∨ a = p) H (.fd ks xs) (fun _ => 0) (Own.fd (.inr ⟨q, .inr rfl⟩) hk hn (up (o.imAll hi)) .nil) (fun _ _ => rfl) (fun _ _ e _ => e) fun _ z => .inl z
    refine ⟨p, kvs, _, e1, q, hk, ⟨h9.app (up h2), fun a => ?_, fun a ha z => ?_, fun a z => ?_, R.keep, fun a e ha => R.old a e ?_, R.live, fun a z => ?_, fun a z => .inl (R.z0 a z)⟩⟩
    · have := R.uni a; have := q1 a; have := q2 a; (try dsimp only at *); omega
    · rcases z with z | z
      · refine R.fz a ?_ z
        have := q1 a; have := q2 a; (try dsimp only at *); omega
      · subst z
        (try dsimp only at *); omega
    · rcases z with z | z
      · exact R.zl a z
      · subst z; rw [q]; exact fun z => by cases z
    · have := q1 a; have := q2 a; (try dsimp only at *); omega
    · rcases z with z | z
      · exact R.zs a z
      · subst z
        by_cases h0 : N.H0 a = none
        · exact .inr (.inr h0)
        · exact .inr (.inl (R.old a h0 cp))
/-- a frozen dict is locked, for a walk -/
theorem Rel.lock {vs : List V} {ds : List MP.D} {p : Addr} {kvs : List (Key × V)} {o : Obj} (R : Rel N Z H vs ds c) (hp : H p = some (.dK kvs)) (z : Z p) : Rel ⟨N.K, Z, upd H p (.frz o (.dK kvs)), c⟩ Z (upd H p (.frz o (.dK kvs))) vs ds c where
  own := R.own.swapD (fun a e => upd_ne e) (fun _ z => z) (.inl hp) (.inl ⟨o, upd_same⟩) (Nat.eq_zero_of_not_pos fun h => R.fz p h z)
  uni := R.uni
  fz := R.fz
  zl := fun a z => upd_live (R.zl a z)
  keep := fun a u e _ => e
  old := fun a _ h => h
  live := fun a h => h
  zs := fun a z => .inl z
  z0 := fun a z => z
theorem Rel.unlock {vs vs' : List V} {ds ds' : List MP.D} {p : Addr} {kvs : List (Key × V)} {o : Obj} {Z2 : Addr → Prop} {H2 : Hp} {c2 : Cnt} (R : Rel N Z H vs ds c) (hp : H p = some (.dK kvs)) (z : Z p) (R2 : Rel ⟨N.K, Z, upd H p (.frz o (.dK kvs)), c⟩ Z2 H2 vs' ds' c2) :
    H2 p = some (.frz o (.dK kvs)) ∧ Rel N (fun a => Z2 a ∨ a = p) (upd H2 p (.dK kvs)) vs' ds' c2 := by
  have hc : c p = 0 := Nat.eq_zero_of_not_pos fun h => R.fz p h z
  have h2 : H2 p = some (.frz o (.dK kvs)) := R2.keep p _ upd_same hc
  have hc2 : c2 p = 0 := Nat.eq_zero_of_not_pos fun h => by
    rcases R2.own.mutAt h with ⟨_, e⟩ | ⟨_, e⟩ | ⟨_, _, _, e⟩ <;> rw [h2] at e <;> cases e
  have c0 : ∀ a, N.H0 a ≠ none → N.c0 a = 0 → c a = 0 := fun a e q => Nat.eq_zero_of_not_pos fun h => by have := R.old a e h; omega
  refine ⟨h2, ⟨R2.own.swapD (fun a e => upd_ne e) (fun _ z => .inl z) (.inr ⟨o, h2⟩) (.inr ⟨upd_same, .inr rfl⟩) hc2, R2.uni, fun a ha z => ?_, fun a z => ?_, fun a u e q => ?_, fun a e ha => R.old a e (R2.old a (upd_live (R.live a e)) ha), fun a e => upd_live (R2.live a (upd_live (R.live a e))), fun a z => ?_, fun a z => .inl (R2.z0 a (R.z0 a z))⟩⟩
  · rcases z with z | z
    · exact R2.fz a ha z
    · subst z; omega
  · rcases z with z | z
    · exact upd_live (R2.zl a z)
    · subst z; rw [upd_same]; exact fun z => by cases z
  · have hk := R.keep a u e q
    by_cases ea : a = p
    · subst ea
      rw [hp] at hk
      rw [upd_same]; exact hk
    · rw [upd_ne ea]
      exact R2.keep a u (by show upd H p _ a = _; rw [upd_ne ea]; exact hk) (c0 a (by rw [e]; exact fun z => by cases z) q)
  · have fin : Z a ∨ 0 < c a ∨ H a = none → N.Z0 a ∨ 0 < N.c0 a ∨ N.H0 a = none := fun h => by
      rcases h with h | h | h
      · exact R.zs a h
      · by_cases h0 : N.H0 a = none
        · exact .inr (.inr h0)
        · exact .inr (.inl (R.old a h0 h))
      · by_cases h0 : N.H0 a = none
        · exact .inr (.inr h0)
        · exact absurd h (R.live a h0)
    rcases z with z' | z'
    · rcases R2.zs a z' with h | h | h
      · exact fin (.inl h)
      · exact fin (.inr (.inl h))
      · by_cases ea : a = p
        · subst ea; exact fin (.inl z)
        · refine fin (.inr (.inr ?_))
          have h : upd H p (.frz o (.dK kvs)) a = none := h
          rw [upd_ne ea] at h; exact h
    · subst z'; exact fin (.inl z)
theorem Rel.back {vs vs' : List V} {ds ds' : List MP.D} {Z2 : Addr → Prop} {H2 : Hp} {c2 : Cnt} (R : Rel N Z H vs ds c) (R2 : Rel ⟨N.K, Z, H, c⟩ Z2 H2 vs' ds' c2) : Rel N Z2 H2 vs' ds' c2 where
  own := R2.own
  uni := R2.uni
  fz := R2.fz
  zl := R2.zl
  keep := fun a u e q => R2.keep a u (R.keep a u e q) (Nat.eq_zero_of_not_pos fun h => by have := R.old a (by rw [e]; exact fun z => by cases z) h; omega)
  old := fun a e ha => R.old a e (R2.old a (R.live a e) ha)
  live := fun a e => R2.live a (R.live a e)
  zs := fun a z => by
    rcases R2.zs a z with h | h | h
    · exact R.zs a h
    · by_cases h0 : N.H0 a = none
      · exact .inr (.inr h0)
      · exact .inr (.inl (R.old a h0 h))
    · by_cases h0 : N.H0 a = none
      · exact .inr (.inr h0)
      · exact absurd h (R.live a h0)
  z0 := fun a z => R2.z0 a (R.z0 a z)
theorem keyD_own {key : Key} : Own K Z H [kV key] [keyD key] fun _ => 0 := by
  cases key with
  | inl _ => exact .int .nil
  | inr _ => exact .str .nil
theorem lcd_core {elt cond : PX} {tg : Tg} {i : Nat} {vs : List Nat} {N1 : Ent} {Z1 : Addr → Prop} {H1 : Hp} {σ1 : List MP.D} {c1 : Cnt} {p : Addr} {kvs : List (Key × V)} {o : Obj} {K' : List MP.D → List MP.D → Prop} (hvs : ∀ j, tgHas j tg = true → j ∈ vs)
    (hN : N1.K = K) (h0 : N1.H0 p = some (.frz o (.dK kvs))) (hc0 : N1.c0 p = 0) (lt : tvs.length = tds.length) (R1 : Rel N1 Z1 H1 (frm σV ++ tvs) (σ1 ++ tds) c1) (B1 : Bd σV σ1) (ev : σV[i]? = some (some (.ref p)))
    (wf : forC (fun _ => True) (fun d σ2 k2 => bindT np tg d σ2 fun σ3 => wpX T G np cond σ3 (fun rc σ4 => match rc with
        | .val (.bl t) => br t (wpX T G np elt σ4 (fun re σ5 => take re σ5 fun y σ6 => k2 (some y) (wipeD σ6 vs)) noX) (k2 none (wipeD σ4 vs))
        | _ => False) noX) ((kvs.map (·.1)).map keyD) [] (wipeD σ1 vs) K')
    (k : ∀ acc σ2 D Z2 H2 c2, K' acc σ2 → Rel N1 Z2 H2 (frm σV ++ (.ref D :: tvs)) (σ2 ++ (.lst acc :: tds)) c2 → Bd σV σ2 → Q (.ref D) H2) :
    tLc (iKeys (tVar i)) (tT K np tg) (tTest (tX T G np K cond)) (tX T G np K elt) vs σV H1 Q := by
  have hp1 : ∀ {Z' : Addr → Prop} {H' : Hp} {vs' : List V} {ds' : List MP.D} {c' : Cnt}, Rel N1 Z' H' vs' ds' c' → H' p = some (.frz o (.dK kvs)) := fun R => R.keep p _ h0 hc0
  obtain ⟨ds, hds⟩ : ∃ ds, ds = (kvs.map (·.1)).map keyD := ⟨_, rfl⟩
  have hdl : ds.length = kvs.length := by rw [hds, List.length_map, List.length_map]
  rw [← hds] at wf
  refine ⟨.ref p, ev, p, o, rfl, .inl ⟨kvs, hp1 R1, fun D hD => ?_⟩⟩
  obtain ⟨c2, R2, B2⟩ := R1.wiped (vs := vs) B1
  subst hN
  have R3 := Rel.newLst (us := []) (es := []) (tvs := tvs) (tds := tds) R2 B2.fl rfl hD
  refine ⟨fun i m Hh => m = ds.length - i ∧ i ≤ ds.length ∧ ∃ (Zh : Addr → Prop) (σ2 : List MP.D) (ch : Cnt) (acc : List MP.D), Rel N1 Zh Hh (frm (wipe σV vs) ++ (.ref D :: tvs)) (σ2 ++ (.lst acc :: tds)) ch ∧ Bd (wipe σV vs) σ2 ∧ wipeD σ2 vs = σ2 ∧
      forC (fun _ => True) (fun d σ2 k2 => bindT np tg d σ2 fun σ3 => wpX T G np cond σ3 (fun rc σ4 => match rc with
        | .val (.bl t) => br t (wpX T G np elt σ4 (fun re σ5 => take re σ5 fun y σ6 => k2 (some y) (wipeD σ6 vs)) noX) (k2 none (wipeD σ4 vs))
        | _ => False) noX) (ds.drop i) acc σ2 K', ⟨_, rfl, Nat.zero_le _, Z1, _, _, [], R3, B2, wipeD_idem, wf⟩, ?_⟩
  rintro i m Hh ⟨rfl, hi, Zh, σ2, ch, acc, Rh, Bh, hw, wf⟩
  cases hdr : ds.drop i with
  | nil =>
    rw [hdr] at wf
    obtain ⟨_, wf⟩ := wf
    have hlen : ds.length ≤ i := by
      have := congrArg List.length hdr
      rw [List.length_drop] at this
      simp at this; omega
    obtain ⟨Ru, Bu⟩ := Rh.unwiped Bh hw
    exact .inl ⟨⟨hp1 Rh, by omega⟩, k acc σ2 D Zh Hh ch wf Ru Bu⟩
  | cons d rest =>
    rw [hdr] at wf
    obtain ⟨_, wf⟩ := wf
    have hlt : i < ds.length := by
      have := congrArg List.length hdr
      rw [List.length_drop] at this
      simp at this; omega
    have hd : ds[i]? = some d := by
      have : (ds.drop i)[0]? = some d := by rw [hdr]; rfl
      rw [List.getElem?_drop] at this
      simpa using this
    have hrest : ds.drop (i + 1) = rest := by
      have : (ds.drop i).drop 1 = rest := by rw [hdr]; rfl
      rw [List.drop_drop] at this
      exact this
    refine .inr ⟨⟨hp1 Rh, by omega⟩, fun H' => ∃ m', m' < ds.length - i ∧ (m' = ds.length - (i + 1) ∧ i + 1 ≤ ds.length ∧ ∃ (Zh : Addr → Prop) (σ2 : List MP.D) (ch : Cnt) (acc : List MP.D), Rel N1 Zh H' (frm (wipe σV vs) ++ (.ref D :: tvs)) (σ2 ++ (.lst acc :: tds)) ch ∧ Bd (wipe σV vs) σ2 ∧ wipeD σ2 vs = σ2 ∧
      forC (fun _ => True) (fun d σ2 k2 => bindT np tg d σ2 fun σ3 => wpX T G np cond σ3 (fun rc σ4 => match rc with
        | .val (.bl t) => br t (wpX T G np elt σ4 (fun re σ5 => take re σ5 fun y σ6 => k2 (some y) (wipeD σ6 vs)) noX) (k2 none (wipeD σ4 vs))
        | _ => False) noX) (ds.drop (i + 1)) acc σ2 K'), fun H' q => q, fun x H' hy => ?_⟩
    obtain ⟨rfl, key, v, hkv, rfl⟩ := hy
    have ed : d = keyD key := by
      rw [hds, List.getElem?_map, List.getElem?_map, hkv] at hd
      exact (Option.some.inj hd).symm
    subst ed
    have Rx := Rh.push0 (v := kV key) (d := keyD key) Bh.fl keyD_own
    refine ⟨N1, Zh, σ2, .lst acc :: tds, .ref D :: tvs, ch, keyD key, _, rfl, Rx, Bh, wf, fun σV3 σ3 c3 w3 R3 B3 hl3 hj => ?_⟩
    have hwp : wipe σV3 vs = wipe σV vs := by
      rw [← wipe_idem (σ := σV)]
      refine wipe_ext hl3 fun j hjv => hj j ?_
      cases q : tgHas j tg with
      | false => rfl
      | true => exact absurd (hvs j q) hjv
    have lt3 : (V.ref D :: tvs).length = (MP.D.lst acc :: tds).length := by simp [lt]
    refine ⟨hwp, tX_test R3 lt3 B3 w3 (fun t σ4 H4 Z4 c4 w4 R4 B4 _ => ?_) fun r σ1 w => ?_⟩
    · cases t with
      | false =>
        simp only [Bool.false_eq_true, if_false]
        obtain ⟨c5, R5, B5⟩ := R4.wiped (vs := vs) B4
        rw [hwp] at R5 B5
        exact ⟨_, by omega, rfl, hlt, Z4, _, c5, acc, R5, B5, wipeD_idem, by rw [hrest]; exact w4.2 rfl⟩
      | true =>
        simp only [if_true]
        refine ⟨N1, Z4, σ4, .lst acc :: tds, .ref D :: tvs, c4, _, rfl, lt3, R4, B4, w4.1 rfl, fun re σ5 y H5 Z5 c5 w5 P5 => ?_⟩
        obtain ⟨dy, σ6, w6, R6, B6, _⟩ := take_ok P5.R P5.ok P5.bd w5
        obtain ⟨us, hD, hl, c7, R7⟩ := R6.tmpApp B6
        refine ⟨us, hD, by rw [hl]; exact w6.1, ?_⟩
        obtain ⟨c8, R8, B8⟩ := R7.wiped (vs := vs) B6
        rw [hwp] at R8 B8
        exact ⟨_, by omega, rfl, hlt, Z5, _, c8, _, R8, B8, wipeD_idem, by rw [hrest]; exact w6.2⟩
    · match r, w with
      | .val (.bl t), _ => exact ⟨t, rfl⟩
theorem set_get {σ : List MP.D} {i : Nat} {d : MP.D} (e1 : σ[i]? = some d) : σ.set i d = σ := by
  refine List.ext_getElem? fun j => ?_
  by_cases hj : i = j
  · subst hj
    rw [List.getElem?_set_self (List.getElem?_eq_some_iff.mp e1).1, e1]
  · rw [List.getElem?_set_ne hj]
theorem tX_lcd {elt cond : PX} {tg : Tg} {i : Nat} {vs : List Nat} (hvs : ∀ j, tgHas j tg = true → j ∈ vs) (h : tX T G np K (.lcd elt tg i cond vs) σV H Q) :
    tLockE (tLc (iKeys (tVar i)) (tT K np tg) (tTest (tX T G np K cond)) (tX T G np K elt) vs) σV H Q ∨ tLc (iKeys (tVar i)) (tT K np tg) (tTest (tX T G np K cond)) (tX T G np K elt) vs σV H Q := by
  obtain ⟨N, Z, σ, tds, tvs, c, kk, e, lt, R, B, w, k⟩ := h
  unfold wpX at w
  cases e1 : σ[i]? with
  | none => simp only [e1] at w
  | some d =>
    simp only [e1] at w
    cases e2 : dctX d with
    | none => simp only [e2] at w
    | some kx =>
      obtain ⟨ks, xs⟩ := kx
      simp only [e2] at w
      obtain ⟨⟨hi, hv⟩, wf⟩ := w
      have nb : d ≠ .bot := by rintro rfl; cases e2
      obtain ⟨v0, ev0⟩ := B.get i d e1 nb
      have ef : (frm σV)[i]? = some v0 := by unfold frm; rw [List.getElem?_map, ev0]; rfl
      have st : ∃ p kvs Z1 c1, σV[i]? = some (some (.ref p)) ∧ kvs.map (·.1) = ks ∧ Rel N Z1 H (frm σV ++ tvs) (σ.set i (.fd ks xs) ++ tds) c1 ∧ Bd σV (σ.set i (.fd ks xs)) ∧ ((H p = some (.dK kvs) ∧ Z1 p) ∨ ((∃ o, H p = some (.frz o (.dK kvs))) ∧ c1 p = 0)) := by
        have B' : Bd σV (σ.set i (.fd ks xs)) := B.set (.inr ⟨_, ev0⟩)
        cases d <;> first | (cases e2; done) | skip
        · have e2 := Option.some.inj e2
          obtain ⟨rfl, rfl⟩ := Prod.mk.inj e2
          rw [set_get e1] at B' ⊢
          obtain ⟨c1, c2, h1, h2, q1⟩ := R.own.split2 B.fl
          obtain ⟨v, b', e3, ho, _⟩ := h1.item e1
          rw [ef] at e3
          have e3 := Option.some.inj e3
          subst e3
          cases ho with
          | fd q hk hn o t =>
            rename_i p kvs
            refine ⟨p, kvs, Z, c, ev0, hk, R, B', ?_⟩
            rcases q with ⟨o', q⟩ | ⟨q, z⟩
            · refine .inr ⟨⟨o', q⟩, Nat.eq_zero_of_not_pos fun h => ?_⟩
              rcases R.own.mutAt h with ⟨_, e⟩ | ⟨_, e⟩ | ⟨_, _, _, e⟩ <;> rw [q] at e <;> cases e
            · exact .inl ⟨q, z⟩
        · have e2 := Option.some.inj e2
          obtain ⟨rfl, rfl⟩ := Prod.mk.inj e2
          obtain ⟨p, kvs, c', f1, f2, f3, f4⟩ := R.freeze B e1 hi
          rw [ef] at f1
          have f1 := Option.some.inj f1
          subst f1
          exact ⟨p, kvs, _, c', ev0, f3, f4, B', .inl ⟨f2, .inr rfl⟩⟩
      obtain ⟨p, kvs, Z1, c1, ev, rfl, R1, B1, hst⟩ := st
      rcases hst with ⟨hp, z⟩ | ⟨⟨o, hp⟩, hc1⟩
      · refine .inl ⟨p, .dK kvs, hp, trivial, fun od => ?_⟩
        refine lcd_core (N1 := ⟨N.K, Z1, upd H p (.frz od (.dK kvs)), c1⟩) (i := i) (o := od) (kvs := kvs) hvs e upd_same (Nat.eq_zero_of_not_pos fun h => R1.fz p h z) lt (R1.lock (o := od) hp z) B1 ev wf fun acc σ2 D Z2 H2 c2 kq R2 B2 => ?_
        obtain ⟨g1, g2⟩ := R1.unlock hp z R2
        exact ⟨g1, k (.val (.lst acc)) σ2 _ _ _ _ kq ⟨g2, trivial, B2, fun z => by cases z⟩⟩
      · refine .inr (lcd_core (N1 := ⟨N.K, Z1, H, c1⟩) (i := i) (o := o) (kvs := kvs) hvs e hp hc1 lt R1.self B1 ev wf fun acc σ2 D Z2 H2 c2 kq R2 B2 => ?_)
        exact k (.val (.lst acc)) σ2 _ _ _ _ kq ⟨R1.back R2, trivial, B2, fun z => by cases z⟩
/-! ### frozen at once -/
theorem Rel.freezeTop {p : Addr} {d d' : MP.D} {b : Cnt} (R : Rel N Z H (frm σV ++ (.ref p :: tvs)) (σ ++ (d :: tds)) c) (B : Bd σV σ) (hb : ∀ {c0 : Cnt}, Own N.K Z H [.ref p] [d] c0 → 0 < c0 p ∧ Own N.K (fun a => Z a ∨ a = p) H [.ref p] [d'] fun _ => 0) :
    ∃ c', Rel N (fun a => Z a ∨ a = p) H (frm σV ++ (.ref p :: tvs)) (σ ++ (d' :: tds)) c' := by
  obtain ⟨c1, c2, h1, h2, q1⟩ := R.own.split2 B.fl
  obtain ⟨c3, c4, h3, h4, q2⟩ := h2.uncons
  obtain ⟨g1, g2⟩ := hb h3
  have un := R.uni p
  have u1 := q1 p
  have u2 := q2 p
  have cp : 0 < c p := by omega
  have up : ∀ {vs : List V} {ds : List MP.D} {b : Cnt}, Own N.K Z H vs ds b → Own N.K (fun a => Z a ∨ a = p) H vs ds b := fun h => h.keep (fun _ _ => rfl) (fun _ _ e _ => e) fun _ z => .inl z
  refine ⟨_, ⟨(up h1).app (g2.cons (up h4)), fun a => ?_, fun a ha z => ?_, fun a z => ?_, R.keep, fun a e ha => R.old a e ?_, R.live, fun a z => ?_, fun a z => .inl (R.z0 a z)⟩⟩
  · have := R.uni a; have := q1 a; have := q2 a; (try dsimp only at *); omega
  · rcases z with z | z
    · refine R.fz a ?_ z
      have := q1 a; have := q2 a; (try dsimp only at *); omega
    · subst z
      (try dsimp only at *); omega
  · rcases z with z | z
    · exact R.zl a z
    · subst z; exact R.own.isSome cp
  · have := q1 a; have := q2 a; (try dsimp only at *); omega
  · rcases z with z | z
    · exact R.zs a z
    · subst z
      by_cases h0 : N.H0 a = none
      · exact .inr (.inr h0)
      · exact .inr (.inl (R.old a h0 cp))
theorem tX_frz {a : PX} (h : tX T G np K (.frz a) σV H Q) : tX T G np K a σV H Q := by
  obtain ⟨N, Z, σ, tds, tvs, c, kk, e, lt, R, B, w, k⟩ := h
  refine ⟨N, Z, σ, tds, tvs, c, _, e, lt, R, B, w, fun ra σ1 v1 H1 Z1 c1 w1 P1 => ?_⟩
  have top : ∃ c0, Own N.K Z1 H1 [v1] [ra.own] c0 := by
    obtain ⟨_, _, _, h2, _⟩ := P1.R.own.split2 P1.bd.fl
    obtain ⟨c3, _, h3, _, _⟩ := h2.uncons
    exact ⟨c3, h3⟩
  have upz : ∀ {p : Addr} {vs : List V} {ds : List MP.D} {b : Cnt}, Own N.K Z1 H1 vs ds b → Own N.K (fun a => Z1 a ∨ a = p) H1 vs ds b := fun h => h.keep (fun _ _ => rfl) (fun _ _ e _ => e) fun _ z => .inl z
  match ra, w1, P1, top with
  | .val (.lst xs), w1, P1, ⟨c0, h0⟩ =>
    cases h0 with
    | @lst p us _ _ _ _ _ hq ho ht =>
      obtain ⟨c', R'⟩ := P1.R.freezeTop (d' := .fl xs) (b := fun _ => 0) P1.bd fun {c9} h9 => by
        cases h9 with
        | lst hq' ho' ht' =>
          refine ⟨by simp only [one_self]; omega, .fl (.inl ⟨hq', .inr rfl⟩) (upz (ho'.imAll w1.1)) .nil⟩
      exact k (.val (.fl xs)) σ1 _ H1 _ c' w1.2 ⟨R', trivial, P1.bd, fun z => by cases z⟩
  | .val (.dct ks xs), w1, P1, ⟨c0, h0⟩ =>
    cases h0 with
    | @dct p kvs _ _ _ _ _ _ hq hk hn ho ht =>
      obtain ⟨c', R'⟩ := P1.R.freezeTop (d' := .fd ks xs) (b := fun _ => 0) P1.bd fun {c9} h9 => by
        cases h9 with
        | dct hq' hk' hn' ho' ht' =>
          refine ⟨by simp only [one_self]; omega, .fd (.inr ⟨hq', .inr rfl⟩) hk' hn' (upz (ho'.imAll w1.1)) .nil⟩
      exact k (.val (.fd ks xs)) σ1 _ H1 _ c' w1.2 ⟨R', trivial, P1.bd, fun z => by cases z⟩
end
end MP

set_option Elab.async false
set_option linter.all false
set_option maxRecDepth 100000
set_option maxHeartbeats 1000000
/-! The text of an expression against its row: a check that the kernel runs, and what it gives. -/
namespace MP
open PySem PySem.Spec PyProof.Rows L2

structure Tab where
  N : List Str
  fns : List Str
  glos : List Str
  kws : List (Nat × List Str × List Nat)
structure Sc where
  names : List (Str × NameKind)
  fnm : List (Str × NameKind)
def dbg (x : Str) : Bool := x == ("__debug__" : Str)
def visB (sc : Sc) (x : Str) : Bool := match sc.names.lookup x with
  | some .local => true | some .cell => true | some .free => true | _ => false
def locB (sc : Sc) (x : Str) : Bool := match sc.names.lookup x with
  | some .local => true
  | some .cell => (match sc.fnm.lookup x with
    | some .cell => true
    | _ => false)
  | _ => false
def glB (sc : Sc) (x : Str) : Bool := match sc.names.lookup x with
  | some .globalImplicit => true | _ => false
def isAt (l : List Str) (i : Nat) (x : Str) : Bool := match l[i]? with
  | some y => y == x
  | none => false
theorem isAt_ok {l : List Str} {i : Nat} {x : Str} (h : isAt l i x = true) : l[i]? = some x := by
  unfold isAt at h
  cases e : l[i]? with
  | none => rw [e] at h; cases h
  | some y => rw [e] at h; exact congrArg some (by simpa using h)
def Bi.nm : Bi → Str
  | .int => "int" | .len => "len" | .max2 => "max" | .min2 => "min" | .max1 => "max" | .min1 => "min" | .abs => "abs" | .list => "list" | .tuple => "tuple" | .repr => "repr" | .all => "all" | .any => "any" | .sorted => "sorted" | .dict => "dict" | .str => "str"
def bltNames : List Str := ["int", "len", "max", "min", "abs", "list", "tuple", "repr", "all", "any", "sorted", "isinstance", "range", "enumerate", "zip", "bool", "str", "dict", "set"]
def cstB : D → Const → Bool
  | .int i, .int j => decide (i = j)
  | .bl i, .bool j => i == j
  | .non, .none => true
  | .str x, .str y => x == y
  | _, _ => false
def Mt.nm : Mt → Str
  | .append => "append" | .pop => "pop" | .popAt => "pop" | .extend => "extend"
def notComp : Expr → Bool
  | .ListComp _ _ _ _ => false | .SetComp _ _ _ _ => false | .DictComp _ _ _ _ _ => false | _ => true
def notSet : Expr → Bool
  | .Set _ _ _ => false | _ => true
def notSlice : Expr → Bool
  | .Slice _ _ _ _ => false | _ => true
def notCall : Expr → Bool
  | .Call _ _ _ _ => false | _ => true
def notStar : Expr → Bool
  | .Starred _ _ => false | _ => true
def notTup : Expr → Bool
  | .Tuple _ _ _ => false | _ => true
def keyB : Key → Expr → Bool
  | .inl i, .Constant (.int j) _ _ => decide (i = j)
  | .inr x, .Constant (.str y) _ _ => x == y
  | _, _ => false
def keysB : List Key → List (Option Expr) → Bool
  | [], [] => true
  | k :: ks, some e :: es => keyB k e && keysB ks es
  | _, _ => false
def namesB (tab : Tab) (sc : Sc) : List Nat → List Expr → Bool
  | [], [] => true
  | i :: is, e :: es => (match e with
    | .Name x _ => isAt tab.N i x && locB sc x
    | _ => false) && namesB tab sc is es
  | _, _ => false
def tgB (tab : Tab) (sc : Sc) (t : Tg) (e : Expr) : Bool := match t with
  | .one i => (match e with
    | .Name x _ => isAt tab.N i x && locB sc x
    | _ => false)
  | .many is => (match e with
    | .Tuple es _ _ => namesB tab sc is es
    | _ => false)
def ownOf (tab : Tab) (vs : List Nat) : List (Str × Nat) := vs.map fun v => (tab.N[v]?.getD "", v)
def blkSc (sc : Sc) (scope : Scope) : Sc := ⟨scope.names.map fun (n, k) => if (k == .free && sc.names.lookup n == some .cell) then (n, .cell) else (n, k), scope.names⟩
/-- the scope's part of blkC, from the names alone -/
def blkB (tab : Tab) (sc : Sc) (scope : Scope) (own : List (Str × Nat)) : Bool := blkC tab.N { (default : Scope) with names := sc.names } scope own
def kwB (tab : Tab) (f : Nat) (perm : List Nat) (ks : List Str) : Bool := tab.kws.any fun q => q.1 == f && decide (q.2.1 = ks) && decide (q.2.2 = perm)
def kwNames : List Keyword → Option (List Str)
  | [] => some []
  | ⟨some n, _, _⟩ :: r => (kwNames r).map (n :: ·)
  | ⟨none, _, _⟩ :: _ => none
def trueX : PX → Bool
  | .cst (.bl true) => true
  | _ => false
def zeroX : PX → Bool
  | .cst (.int 0) => true
  | _ => false
/-- no a if t else b as a test -/
def noIte : PX → Bool
  | .ite _ _ _ => false
  | .not a => noIte a
  | .and a b => noIte a && noIte b
  | .or a b => noIte a && noIte b
  | _ => true
def varB (tab : Tab) (sc : Sc) (i : Nat) (e : Expr) : Bool := match e with
  | .Name x _ => isAt tab.N i x && visB sc x && !dbg x && !(x == ("__classdict__" : Str))
  | _ => false
section
variable (tab : Tab)
mutual
def chE : PX → Sc → Expr → Bool
  | .var i, sc, e => (match e with
    | .Name x _ => isAt tab.N i x && visB sc x && !dbg x && !(x == ("__classdict__" : Str))
    | _ => false)
  | .cst d, _, e => (match e with
    | .Constant c _ _ => cstB d c
    | _ => false)
  | .glo j, sc, e => (match e with
    | .Name x _ => isAt tab.glos j x && glB sc x && !dbg x
    | _ => false)
  | .bin op a b, sc, e => (match e with
    | .BinOp l o r _ => decide (op = o) && chE a sc l && chE b sc r
    | _ => false)
  | .neg a, sc, e => (match e with
    | .UnaryOp .USub x _ => chE a sc x
    | _ => false)
  | .not a, sc, e => (match e with
    | .UnaryOp .Not x _ => chE a sc x
    | _ => false)
  | .cmp op a b, sc, e => (match e with
    | .Compare l [o] [r] _ => decide (op = o) && !behindInMarks o r && chE a sc l && chE b sc r
    | _ => false)
  | .chn o1 o2 a b c, sc, e => (match e with
    | .Compare l [p1, p2] [r, q] _ => decide (o1 = p1) && decide (o2 = p2) && !lastMarks [p1, p2] [r, q] && chE a sc l && chE b sc r && chE c sc q
    | _ => false)
  | .and a b, sc, e => (match e with
    | .BoolOp .And (x :: y :: rest) pos => chE a sc x && chE b sc (match rest with
      | [] => y
      | z :: r => .BoolOp .And (y :: z :: r) pos)
    | _ => false)
  | .or a b, sc, e => (match e with
    | .BoolOp .Or (x :: y :: rest) pos => chE a sc x && chE b sc (match rest with
      | [] => y
      | z :: r => .BoolOp .Or (y :: z :: r) pos)
    | _ => false)
  | .ite c a b, sc, e => (match e with
    | .IfExp t x y _ => chE c sc t && noIte c && chE a sc x && chE b sc y
    | _ => false)
  | .tup es, sc, e => (match e with
    | .Tuple l _ _ => chL es sc l
    | _ => false)
  | .lst es, sc, e => (match e with
    | .List l _ => chL es sc l
    | _ => false)
  | .dct ks es, sc, e => (match e with
    | .Dict [] [] _ => ks.isEmpty && chL es sc []
    | .Dict (k :: keys) vals _ => keysB ks (k :: keys) && chL es sc vals && decide (ks.length = lenX es) && decide (ks.length ≤ 15) && isList es
    | _ => false)
  | .nil, _, _ => false
  | .cons _ _, _, _ => false
  | .sub a i, sc, e => (match e with
    | .Subscript v s _ => notSlice s && chE a sc v && chE i sc s
    | _ => false)
  | .slc a lo hi, sc, e => (match e with
    | .Subscript v (.Slice l h none _) _ => chE a sc v && (match l with
      | none => isNonC lo
      | some x => !isNonC lo && chE lo sc x) && (match h with
      | none => isNonC hi
      | some x => !isNonC hi && chE hi sc x)
    | _ => false)
  | .rev a, sc, e => (match e with
    | .Subscript v (.Slice none none (some (.UnaryOp .USub (.Constant (.int 1) _ _) _)) _) _ => chE a sc v
    | _ => false)
  | .call f es, sc, e => (match e with
    | .Call (.Name x _) args [] _ => isAt tab.fns f x && glB sc x && !dbg x && chL es sc args
    | _ => false)
  | .callK f perm es, sc, e => (match e with
    | .Call (.Name x _) [] kws _ => isAt tab.fns f x && glB sc x && !dbg x && (match kwNames kws with
      | some ks => kwB tab f perm ks && decide (ks.length = lenX es)
      | none => false) && nodupB perm && chL es sc (kws.map (·.value))
    | _ => false)
  | .bi b es, sc, e => (match e with
    | .Call (.Name x _) (y :: args) [] _ => x == b.nm && glB sc x && chL es sc (y :: args)
    | _ => false)
  | .isi t a, sc, e => (match e with
    | .Call (.Name x _) [y, .Name z _] [] _ => x == ("isinstance" : Str) && glB sc x && glB sc z && chE a sc y && notStar y && (bltNames.contains z) && !dbg z && !(z == ("__name__" : Str)) && (match bootBuiltins z with
      | some (.type n) => n == t
      | _ => false)
    | _ => false)
  | .mth m a es, sc, e => (match e with
    | .Call (.Attribute o nm apos) args [] cpos => nm == m.nm && (apos.endLine == cpos.line) && notCall o && chE a sc o && chL es sc args && decide (lenX es = match m with | .pop => 0 | _ => 1)
    | _ => false)
  | .lc elt tg it cond vs, sc, e => (match e with
    | .ListComp el [⟨t, iter, ifs, 0⟩] scope _ => blkB tab sc scope (ownOf tab vs) && chI it sc t iter && notSet iter && tgB tab (blkSc sc scope) tg t && (match tg with
        | .one i => vs.contains i
        | .many is => is.all vs.contains) && (match ifs with
        | [] => trueX cond
        | [c] => chE cond (blkSc sc scope) c && noIte cond
        | _ => false) && chE elt (blkSc sc scope) el
    | _ => false)
  | .lrg tp a, sc, e => (match e with
    | .Call (.Name x _) [.Call (.Name y _) [z] [] _] [] _ => x == (match tp with | true => ("tuple" : Str) | false => "list") && y == ("range" : Str) && glB sc x && glB sc y && notStar z && chE a sc z
    | _ => false)
  | .sst a, sc, e => (match e with
    | .Call (.Name x _) [.Call (.Name y _) [z] [] _] [] _ => x == ("sorted" : Str) && y == ("set" : Str) && glB sc x && glB sc y && notStar z && chE a sc z
    | _ => false)
  | .dc kx vx tg it cond vs, sc, e => (match e with
    | .DictComp kl el [⟨t, iter, ifs, 0⟩] scope _ => blkB tab sc scope (ownOf tab vs) && chI it sc t iter && notSet iter && tgB tab (blkSc sc scope) tg t && (match tg with
        | .one i => vs.contains i
        | .many is => is.all vs.contains) && (match ifs with
        | [] => trueX cond
        | [c] => chE cond (blkSc sc scope) c && noIte cond
        | _ => false) && chE kx (blkSc sc scope) kl && chE vx (blkSc sc scope) el
    | _ => false)
  | .nile ne a, sc, e => (match e with
    | .Compare l [o] [.List [] _] _ => decide (nileOp ne = o) && chE a sc l
    | _ => false)
  | .frz a, sc, e => (match e with
    | .List _ _ => chE a sc e
    | .Dict _ _ _ => chE a sc e
    | .Call _ _ _ _ => chE a sc e
    | _ => false)
  | .lcd elt tg i cond vs, sc, e => (match e with
    | .ListComp el [⟨t, iter, ifs, 0⟩] scope _ => blkB tab sc scope (ownOf tab vs) && varB tab sc i iter && notSet iter && tgB tab (blkSc sc scope) tg t && (match tg with
        | .one i => vs.contains i
        | .many is => is.all vs.contains) && (match ifs with
        | [] => trueX cond
        | [c] => chE cond (blkSc sc scope) c && noIte cond
        | _ => false) && chE elt (blkSc sc scope) el
    | _ => false)
  | .dget a i b, sc, e => (match e with
    | .Call (.Attribute o nm apos) args [] cpos => nm == ("get" : Str) && (apos.endLine == cpos.line) && notCall o && chE a sc o && (match args with
      | [y] => notStar y && isNonC b && chE i sc y
      | [y, z] => notStar y && notStar z && chE i sc y && chE b sc z
      | _ => false)
    | _ => false)
  | .itx _, _, _ => false
  | .rng _ _, _, _ => false
  | .rng3 _ _ _, _, _ => false
  | .enum _, _, _ => false
  | .zip _ _, _, _ => false
def chL : PX → Sc → List Expr → Bool
  | .nil, _, l => l.isEmpty
  | .cons a b, sc, l => (match l with
    | e :: es => notStar e && chE a sc e && chL b sc es
    | [] => false)
  | _, _, _ => false
def chI : PX → Sc → Expr → Expr → Bool
  | .rng a b, sc, _, e => (match e with
    | .Call (.Name x _) args [] _ => x == ("range" : Str) && glB sc x && (match args with
      | [y] => zeroX a && notStar y && chE b sc y
      | [w, y] => notStar w && notStar y && chE a sc w && chE b sc y
      | _ => false)
    | _ => false)
  | .rng3 a b c, sc, _, e => (match e with
    | .Call (.Name x _) [w, y, z] [] _ => x == ("range" : Str) && glB sc x && notStar w && notStar y && notStar z && chE a sc w && chE b sc y && chE c sc z
    | _ => false)
  | .enum a, sc, t, e => (match t with
    | .Tuple _ _ _ => (match e with
      | .Call (.Name x _) [y] [] _ => x == ("enumerate" : Str) && glB sc x && notStar y && chE a sc y
      | _ => false)
    | _ => false)
  | .zip a b, sc, t, e => (match t with
    | .Tuple _ _ _ => (match e with
      | .Call (.Name x _) [y, z] [] _ => x == ("zip" : Str) && glB sc x && notStar y && notStar z && chE a sc y && chE b sc z
      | _ => false)
    | _ => false)
  | .itx a, sc, _, e => chE a sc e
  | _, _, _, _ => false
end
end
end MP

set_option Elab.async false
set_option linter.all false
set_option maxRecDepth 100000
set_option maxHeartbeats 1000000
/-! The check is sound. -/
namespace MP
open PySem PySem.Spec PyProof.Rows L2

/-- what the module gives -/
structure Fx (P : Program) (w : World) (K : W.Frag) (mg : Str → Option Value) (base : Heap) (k : Nat) (tab : Tab) (T : List FnS) (G : List D) : Prop where
  fns : ∀ (i : Nat) (x : Str), tab.fns[i]? = some x → ∃ f fd ps F, T[i]? = some F ∧ FnG P w K mg base k f fd ps F ∧ mg x = some (.ref f) ∧ W.keepIn K (.ref f) = true ∧ Binds K fd ps [] ∧ ∀ ks perm, kwB tab i perm ks = true → KwB K fd ps ks perm
  glos : ∀ (j : Nat) (x : Str), tab.glos[j]? = some x → ∃ d v u, G[j]? = some d ∧ (∀ Z H, Own K Z H [v] [d] fun _ => 0) ∧ mg x = some u ∧ RelV v u
  blt : ∀ x ∈ bltNames, mg x = none
structure Gd (X : Cx) (k : Nat) (tab : Tab) (T : List FnS) (G : List D) (sc : Sc) : Prop where
  at_ : At X k
  hN : X.N = tab.N
  nd : tab.N.Nodup
  names : X.env.scope.names = sc.names
  kind : X.env.scope.kind = .function
  fn : ∀ x, sc.fnm.lookup x = some .cell → X.fn x = true
  fx : Fx X.prog X.w X.K X.mg X.base k tab T G
section
variable {X : Cx} {k : Nat} {tab : Tab} {T : List FnS} {G : List D} {sc : Sc} {np : Nat}
theorem Gd.gl (g : Gd X k tab T G sc) {x : Str} (h : glB sc x = true) : Gl X x := by
  unfold glB at h
  show X.env.scope.names.lookup x = _
  rw [g.names]
  split at h
  · assumption
  · cases h
theorem Gd.vis (g : Gd X k tab T G sc) {x : Str} (h : visB sc x = true) : Vis X.env.scope x := by
  unfold visB at h
  unfold Vis
  rw [g.names]
  split at h
  · exact .inl (by assumption)
  · exact .inr (.inl (by assumption))
  · exact .inr (.inr (by assumption))
  · cases h
theorem Gd.loc (g : Gd X k tab T G sc) {x : Str} (h : locB sc x = true) : L2.Loc X.env.scope x ∧ (X.fn x = true ∨ X.env.scope.names.lookup x = some .local) := by
  unfold locB at h
  unfold L2.Loc
  rw [g.names]
  split at h
  · exact ⟨.inl (by assumption), .inr (by assumption)⟩
  · split at h
    · exact ⟨.inr (by assumption), .inl (g.fn _ (by assumption))⟩
    · cases h
  · cases h
theorem Gd.at? (g : Gd X k tab T G sc) {i : Nat} {x : Str} (h : isAt tab.N i x = true) : X.N[i]? = some x := by rw [g.hN]; exact isAt_ok h
theorem Gd.ndX (g : Gd X k tab T G sc) : X.N.Nodup := by rw [g.hN]; exact g.nd
theorem Gd.no (g : Gd X k tab T G sc) {x : Str} (h : x ∈ bltNames) : X.mg x = none := g.fx.blt x h
theorem starE (e : Expr) (es : List Expr) (env : Env) (h : notStar e = true) : starEach (e :: es) env = (false, eval e env) :: starEach es env := by
  cases e <;> first | (cases h; done) | rfl
theorem chL_star : ∀ {p : PX} {es : List Expr}, chL tab p sc es = true → es.all notStar = true
  | .cons a b, [], _ => rfl
  | .nil, [], _ => rfl
  | .nil, e :: es, h => by cases h
  | .cons a b, e :: es, h => by
    have h : (notStar e && chE tab a sc e && chL tab b sc es) = true := h
    simp only [Bool.and_eq_true] at h
    rw [List.all_cons, h.1.1, chL_star h.2]; rfl
  | .var _, _, h => by cases h
  | .cst _, _, h => by cases h
  | .glo _, _, h => by cases h
  | .bin _ _ _, _, h => by cases h
  | .neg _, _, h => by cases h
  | .not _, _, h => by cases h
  | .cmp _ _ _, _, h => by cases h
  | .chn _ _ _ _ _, _, h => by cases h
  | .and _ _, _, h => by cases h
  | .or _ _, _, h => by cases h
  | .ite _ _ _, _, h => by cases h
  | .tup _, _, h => by cases h
  | .lst _, _, h => by cases h
  | .dct _ _, _, h => by cases h
  | .sub _ _, _, h => by cases h
  | .slc _ _ _, _, h => by cases h
  | .rev _, _, h => by cases h
  | .call _ _, _, h => by cases h
  | .callK _ _ _, _, h => by cases h
  | .bi _ _, _, h => by cases h
  | .isi _ _, _, h => by cases h
  | .mth _ _ _, _, h => by cases h
  | .lc _ _ _ _ _, _, h => by cases h
  | .lrg _ _, _, h => by cases h
  | .sst _, _, h => by cases h
  | .dc _ _ _ _ _ _, _, h => by cases h
  | .dget _ _ _, _, h => by cases h
  | .lcd _ _ _ _ _, _, h => by cases h
  | .frz _, _, h => by cases h
  | .nile _ _, _, h => by cases h
  | .itx _, _, h => by cases h
  | .rng _ _, _, h => by cases h
  | .rng3 _ _ _, _, h => by cases h
  | .enum _, _, h => by cases h
  | .zip _ _, _, h => by cases h
theorem noStar {pos : Pos} {env : Env} : ∀ {es : List Expr}, es.all notStar = true → (backTo pos (starEach es env)).any (·.1) = false
  | [], _ => rfl
  | e :: es, h => by
    rw [List.all_cons, Bool.and_eq_true] at h
    rw [starE e es env h.1]
    show (false || (backTo pos (starEach es env)).any (·.1)) = false
    rw [noStar h.2]; rfl
theorem allStar {pos : Pos} {env : Env} : ∀ {es : List Expr}, es.all notStar = true → (backTo pos (starEach es env)).all (fun x => !x.1) = true
  | [], _ => rfl
  | e :: es, h => by
    rw [List.all_cons, Bool.and_eq_true] at h
    rw [starE e es env h.1]
    show (!false && (backTo pos (starEach es env)).all (fun x => !x.1)) = true
    rw [allStar h.2]; rfl
theorem Gd.blkOk (g : Gd X k tab T G sc) {scope : Scope} {own : List (Str × Nat)} (h : blkB tab sc scope own = true) : BlkOk X.N X.env.scope scope own := by
  refine blkOk_by ?_
  unfold blkB at h
  unfold blkC at h ⊢
  rw [g.hN, g.names]
  exact h
theorem Gd.blk (g : Gd X k tab T G sc) {scope : Scope} (hk : scope.kind = .function) (s : Shared) (H : Hp) (C : Addr) (cl : List (Str × Addr)) (fp : List Addr) :
    Gd (X.blk s H scope (compEnvC scope cl C X.env) fp) k tab T G (blkSc sc scope) where
  at_ := ⟨g.at_.calm, g.at_.guards, g.at_.room⟩
  hN := g.hN
  nd := g.nd
  names := by
    show (relabel scope X.env).names = _
    unfold relabel
    unfold blkSc Env.kindOf
    rw [g.kind, g.names]
    simp
  kind := hk
  fn := fun x h => by
    show (scope.names.lookup x == some .cell) = true
    have h : scope.names.lookup x = some .cell := h
    rw [h]; rfl
  fx := g.fx
theorem plainT {e : Expr} {env : Env} (h : (match e with | .UnaryOp .Not _ _ => false | .BoolOp _ _ _ => false | .IfExp _ _ _ _ => false | .Compare _ _ _ _ => false | _ => true) = true) (whole : Sem Value) :
    isTrue e env whole = (do let v ← whole; standAt e.pos; holding [v] (truthy v)) := by
  cases e <;> first | rfl | (cases h; done) | skip
  rename_i op a pos
  cases op <;> first | rfl | (cases h; done)
theorem pw_of {o : BoolOp} {l : List Expr} {pos : Pos} {t : TT} (h : PT X (.BoolOp o l pos) t) : PW X (.BoolOp o l pos) t := ⟨fun w pins s σ H Q I q => h.run pins s σ H Q I q⟩
theorem tX_mono {K : W.Frag} {p : PX} {σV : L2.St} {H : Hp} {Q Q' : VK} (h : tX T G np K p σV H Q) (hq : ∀ v H, Q v H → Q' v H) : tX T G np K p σV H Q' := by
  obtain ⟨N, Z, σ, tds, tvs, c, kk, e, lt, R, B, w, k⟩ := h
  exact ⟨N, Z, σ, tds, tvs, c, kk, e, lt, R, B, w, fun r σ' v H' Z' c' w' P => hq _ _ (k r σ' v H' Z' c' w' P)⟩
theorem tg_names (g : Gd X k tab T G sc) : ∀ {is : List Nat} {es : List Expr}, namesB tab sc is es = true → PGs X es (gNames is) ∧ (assignEach es X.env).length = is.length ∧ (assignEach es X.env).findIdx? (·.1) = none
  | [], [], _ => ⟨pgs_nil, rfl, rfl⟩
  | [], _ :: _, h => by cases h
  | _ :: _, [], h => by cases h
  | i :: is, e :: es, h => by
    unfold namesB at h
    rw [Bool.and_eq_true] at h
    obtain ⟨h1, h2⟩ := h
    obtain ⟨p1, p2, p3⟩ := tg_names g h2
    cases e <;> first | (cases h1; done) | skip
    rename_i x pos
    have h1 : (isAt tab.N i x && locB sc x) = true := h1
    rw [Bool.and_eq_true] at h1
    obtain ⟨l1, l2⟩ := g.loc h1.2
    refine ⟨pgs_cons (pg_name g.ndX (g.at? h1.1) l1 l2) p1, ?_, ?_⟩
    · show (assignEach es X.env).length + 1 = _
      rw [p2]; rfl
    · show List.findIdx? (·.1) ((false, assign (.Name x pos) X.env) :: assignEach es X.env) = none
      rw [List.findIdx?_cons, p3]; rfl
theorem PG.imp {X : Cx} {e : Expr} {t t' : TG} (h : PG X e t) (hi : ∀ v σ H Q, t' v σ H Q → t v σ H Q) : PG X e t' := ⟨fun pins s σ H v u Q I r q => h.run pins s σ H v u Q I r (hi _ _ _ _ q)⟩
theorem tg_ok (g : Gd X k tab T G sc) {tg : Tg} {e : Expr} (h : tgB tab sc tg e = true) : PG X e (tT X.K np tg) := by
  cases tg with
  | one i =>
    cases e <;> first | (cases h; done) | skip
    rename_i x pos
    have h : (isAt tab.N i x && locB sc x) = true := h
    rw [Bool.and_eq_true] at h
    obtain ⟨l1, l2⟩ := g.loc h.2
    exact PG.imp (pg_name g.ndX (g.at? h.1) l1 l2) fun v σ H Q q => tT_one q
  | many is =>
    cases e <;> first | (cases h; done) | skip
    obtain ⟨p1, p2, p3⟩ := tg_names g (show namesB tab sc is _ = true from h)
    exact PG.imp (pg_tup g.at_.calm p1 p2 p3) fun v σ H Q q => tT_many q
theorem PI.imp {X : Cx} {tg e : Expr} {t t' : TI} (h : PI X tg e t) (hi : ∀ σ H Q, t' σ H Q → t σ H Q) : PI X tg e t' := ⟨fun pins s σ H Q I q => h.run pins s σ H Q I (hi _ _ _ q)⟩
theorem PTs.imp {X : Cx} {e : List Expr} {t t' : TT} (h : PTs X e t) (hi : ∀ σ H Q, t' σ H Q → t σ H Q) : PTs X e t' := ⟨fun pins s σ H Q I q => h.run pins s σ H Q I (hi _ _ _ q)⟩
theorem PK.imp {X : Cx} {e : List Keyword} {t t' : TA} (h : PK X e t) (hi : ∀ σ H Q, t' σ H Q → t σ H Q) : PK X e t' := ⟨fun pos pins s σ H Q I q => h.run pos pins s σ H Q I (hi _ _ _ q)⟩
theorem PPs.imp {X : Cx} {pos : Pos} {ks : List (Option Expr)} {vs : List Expr} {a b : List (TE × TE)} (h : PPs X pos ks vs a) (e : a = b) : PPs X pos ks vs b := e ▸ h
theorem foldNo {e : Expr} {env : Env} (h : notSet e = true) : ∀ x, foldedSetIterable e env x = pure x := by
  intro x
  cases e <;> first | rfl | (cases h; done)
theorem baseNo {e : Expr} {nm : Str} {env : Env} (h : notCall e = true) : attributeBase e nm env (eval e env) = eval e env := by
  cases e <;> first | rfl | (cases h; done)
theorem plainIx {e : Expr} (h : notSlice e = true) : PlainIx e := by
  intro o i
  cases e <;> first | rfl | (cases h; done)
end
end MP

set_option Elab.async false
set_option linter.all false
set_option maxRecDepth 100000
set_option maxHeartbeats 1000000
/-! The check is sound: expressions. -/
namespace MP
open PySem PySem.Spec PyProof.Rows L2

def plE : Expr → Bool
  | .UnaryOp .Not _ _ => false | .BoolOp _ _ _ => false | .IfExp _ _ _ _ => false | .Compare _ _ _ _ => false | _ => true
structure Snd (tab : Tab) (T : List FnS) (G : List D) (np : Nat) (p : PX) : Prop where
  e : ∀ {X : Cx} {k : Nat} {sc : Sc} {e : Expr}, Gd X k tab T G sc → chE tab p sc e = true → PE X e (tX T G np X.K p)
  t : ∀ {X : Cx} {k : Nat} {sc : Sc} {e : Expr}, Gd X k tab T G sc → chE tab p sc e = true → noIte p = true → PT X e (tTest (tX T G np X.K p))
  l : ∀ {X : Cx} {k : Nat} {sc : Sc} {es : List Expr}, Gd X k tab T G sc → chL tab p sc es = true → PA X es (tXs T G np X.K p) ∧ PA X es (tTs T G np X.K p)
  kw : ∀ {X : Cx} {k : Nat} {sc : Sc} {kws : List Keyword}, Gd X k tab T G sc → chL tab p sc (kws.map (·.value)) = true → PK X kws (tXs T G np X.K p)
  d : ∀ {X : Cx} {k : Nat} {sc : Sc} {ks : List Key} {keys : List (Option Expr)} {vals : List Expr} {pos : Pos}, Gd X k tab T G sc → chL tab p sc vals = true → keysB ks keys = true → ks.length = lenX p → PPs X pos keys vals (prs T G np X.K ks p)
  i : ∀ {X : Cx} {k : Nat} {sc : Sc} {t e : Expr}, Gd X k tab T G sc → chI tab p sc t e = true → PI X t e (tI T G np X.K p)
section
variable {tab : Tab} {T : List FnS} {G : List D} {np : Nat} {p a b c : PX}
theorem Snd.tst (hl : ∀ sc l, chL tab p sc l = false) (hi : ∀ sc t e, chI tab p sc t e = false)
    (he : ∀ {X : Cx} {k : Nat} {sc : Sc} {e : Expr}, Gd X k tab T G sc → chE tab p sc e = true → PE X e (tX T G np X.K p))
    (ht : ∀ {X : Cx} {k : Nat} {sc : Sc} {e : Expr}, Gd X k tab T G sc → chE tab p sc e = true → noIte p = true → PT X e (tTest (tX T G np X.K p))) : Snd tab T G np p where
  e := he
  t := ht
  l := fun g h => by rw [hl] at h; cases h
  kw := fun g h => by rw [hl] at h; cases h
  d := fun g h => by rw [hl] at h; cases h
  i := fun g h => by rw [hi] at h; cases h
theorem Snd.plain (hl : ∀ sc l, chL tab p sc l = false) (hi : ∀ sc t e, chI tab p sc t e = false)
    (he : ∀ {X : Cx} {k : Nat} {sc : Sc} {e : Expr}, Gd X k tab T G sc → chE tab p sc e = true → PE X e (tX T G np X.K p) ∧ plE e = true) : Snd tab T G np p :=
  .tst hl hi (fun g h => (he g h).1) fun g h _ => pt_val (he g h).1 (plainT (he g h).2)
theorem snd_var {i : Nat} : Snd tab T G np (.var i) := .plain (fun _ _ => rfl) (fun _ _ _ => rfl) fun {X k sc e} g h => by
  unfold chE at h
  split at h
  · simp only [Bool.and_eq_true, Bool.not_eq_true'] at h
    exact ⟨PE.imp (pe_var (g.at? h.1.1.1) (g.vis h.1.1.2) h.1.2 h.2) fun σ H Q q => tX_var q, rfl⟩
  · cases h
theorem own_cst {d : D} {cc : Const} (h : cstB d cc = true) {X : Cx} {k : Nat} {pos : Pos} : PE X (.Constant cc k pos) (tX T G np X.K (.cst d)) := by
  unfold cstB at h
  split at h
  · have h : _ = _ := of_decide_eq_true h
    subst h
    exact PE.imp pe_int fun σ H Q q => tX_cst (v := .int _) (fun Z H => .int .nil) q
  · rename_i i j
    have h : i = j := by simpa using h
    subst h
    exact PE.imp pe_bl fun σ H Q q => tX_cst (v := .bl _) (fun Z H => .bl .nil) q
  · exact PE.imp pe_non fun σ H Q q => tX_cst (v := .non) (fun Z H => .non .nil) q
  · rename_i i j
    have h : i = j := by simpa using h
    subst h
    exact PE.imp pe_str fun σ H Q q => tX_cst (v := .str _) (fun Z H => .str .nil) q
  · cases h
theorem snd_cst {d : D} : Snd tab T G np (.cst d) := .plain (fun _ _ => rfl) (fun _ _ _ => rfl) fun {X k sc e} g h => by
  unfold chE at h
  split at h
  · exact ⟨own_cst h, rfl⟩
  · cases h
theorem snd_glo {j : Nat} : Snd tab T G np (.glo j) := .plain (fun _ _ => rfl) (fun _ _ _ => rfl) fun {X k sc e} g h => by
  unfold chE at h
  split at h
  · simp only [Bool.and_eq_true, Bool.not_eq_true'] at h
    obtain ⟨d, v, u, h1, h2, h3, h4⟩ := g.fx.glos j _ (isAt_ok h.1.1)
    exact ⟨PE.imp (pe_glob (g.gl h.1.2) h3 h4 h.2) fun σ H Q q => tX_glo h1 h2 q, rfl⟩
  · cases h
theorem snd_bin {op : Operator} (ha : Snd tab T G np a) (hb : Snd tab T G np b) : Snd tab T G np (.bin op a b) := .plain (fun _ _ => rfl) (fun _ _ _ => rfl) fun {X k sc e} g h => by
  unfold chE at h
  split at h
  · simp only [Bool.and_eq_true, decide_eq_true_eq] at h
    obtain ⟨⟨h1, h2⟩, h3⟩ := h
    subst h1
    obtain ⟨r, ho, hr⟩ := binS_ok (X := X) op
    exact ⟨PE.imp (pe_op ho (ha.e g h2) (hb.e g h3)) fun σ H Q q => tX_bin hr q, rfl⟩
  · cases h
theorem snd_neg (ha : Snd tab T G np a) : Snd tab T G np (.neg a) := .plain (fun _ _ => rfl) (fun _ _ _ => rfl) fun {X k sc e} g h => by
  unfold chE at h
  split at h
  · exact ⟨PE.imp (pe_un un_neg (ha.e g h)) fun σ H Q q => tX_neg q, rfl⟩
  · cases h
theorem snd_not (ha : Snd tab T G np a) : Snd tab T G np (.not a) := .tst (fun _ _ => rfl) (fun _ _ _ => rfl) (fun {X k sc e} g h => by
  unfold chE at h
  split at h
  · exact PE.imp (pe_not (ha.e g h)) fun σ H Q q => tX_not q
  · cases h) fun {X k sc e} g h n => by
  unfold chE at h
  split at h
  · refine PT.imp (pt_not (ha.t g h n)) fun σ H R q => ?_
    have q : tX T G np X.K (.not a) σ H fun x H1 => ∃ k, x = .bl k ∧ R k H1 := q
    refine tX_mono (tX_not q) ?_
    rintro v H1 ⟨cc, rfl, k2, e, q⟩
    have e := V.bl.inj e
    subst e
    exact ⟨cc, rfl, q⟩
  · cases h
theorem snd_cmp {op : CmpOp} (ha : Snd tab T G np a) (hb : Snd tab T G np b) : Snd tab T G np (.cmp op a b) := .tst (fun _ _ => rfl) (fun _ _ _ => rfl) (fun {X k sc e} g h => by
  unfold chE at h
  split at h
  · simp only [Bool.and_eq_true, decide_eq_true_eq, Bool.not_eq_true'] at h
    obtain ⟨⟨⟨h1, h2⟩, h3⟩, h4⟩ := h
    subst h1
    obtain ⟨r, ho, hr⟩ := cmpS_ok (X := X) g.at_.u64 op
    exact PE.imp (pe_cmpR ho (ha.e g h3) (hb.e g h4) h2) fun σ H Q q => tX_cmp hr q
  · cases h) fun {X k sc e} g h n => by
  unfold chE at h
  split at h
  · simp only [Bool.and_eq_true, decide_eq_true_eq, Bool.not_eq_true'] at h
    obtain ⟨⟨⟨h1, h2⟩, h3⟩, h4⟩ := h
    subst h1
    obtain ⟨r, ho, hr⟩ := cmpS_ok (X := X) g.at_.u64 op
    exact PT.imp (pt_cmpR ho (ha.e g h3) (hb.e g h4) h2) fun σ H Q q => tX_cmp hr q
  · cases h
theorem snd_chn {o1 o2 : CmpOp} (ha : Snd tab T G np a) (hb : Snd tab T G np b) (hc : Snd tab T G np c) : Snd tab T G np (.chn o1 o2 a b c) := .tst (fun _ _ => rfl) (fun _ _ _ => rfl) (fun {X k sc e} g h => by
  unfold chE at h
  split at h
  · simp only [Bool.and_eq_true, decide_eq_true_eq, Bool.not_eq_true'] at h
    obtain ⟨⟨⟨⟨⟨h1, h2⟩, h3⟩, h4⟩, h5⟩, h6⟩ := h
    subst h1 h2
    obtain ⟨r, ho, hr⟩ := cmpS_ok (X := X) g.at_.u64 o1
    obtain ⟨r', ho', hr'⟩ := cmpS_ok (X := X) g.at_.u64 o2
    exact PE.imp (pe_chain ho ho' (ha.e g h4) (hb.e g h5) (hc.e g h6) h3) fun σ H Q q => tX_chn hr hr' q
  · cases h) fun {X k sc e} g h n => by
  unfold chE at h
  split at h
  · simp only [Bool.and_eq_true, decide_eq_true_eq, Bool.not_eq_true'] at h
    obtain ⟨⟨⟨⟨⟨h1, h2⟩, h3⟩, h4⟩, h5⟩, h6⟩ := h
    subst h1 h2
    obtain ⟨r, ho, hr⟩ := cmpS_ok (X := X) g.at_.u64 o1
    obtain ⟨r', ho', hr'⟩ := cmpS_ok (X := X) g.at_.u64 o2
    exact PT.imp (pt_chain ho ho' (ha.e g h4) (hb.e g h5) (hc.e g h6) h3) fun σ H Q q => tX_chn hr hr' q
  · cases h
theorem snd_and (ha : Snd tab T G np a) (hb : Snd tab T G np b) : Snd tab T G np (.and a b) := .tst (fun _ _ => rfl) (fun _ _ _ => rfl) (fun {X k sc e} g h => by
  unfold chE at h
  split at h
  · rename_i x y rest pos
    rw [Bool.and_eq_true] at h
    cases rest with
    | nil => exact PE.imp (pe_and (ha.e g h.1) (pe_one (hb.e g h.2))) fun σ H Q q => tX_and q
    | cons z r => exact PE.imp (pe_and (ha.e g h.1) (hb.e g h.2)) fun σ H Q q => tX_and q
  · cases h) fun {X k sc e} g h n => by
  have n : (noIte a && noIte b) = true := n
  rw [Bool.and_eq_true] at n
  have im : ∀ σ H R, tTest (tX T G np X.K (.and a b)) σ H R → tAnd (tTest (tX T G np X.K a)) (tTest (tX T G np X.K b)) σ H R := fun σ H R q => by
    have q : tX T G np X.K (.and a b) σ H fun x H1 => ∃ k, x = .bl k ∧ R k H1 := q
    refine tX_mono (tX_and q) ?_
    rintro v H1 ⟨cc, rfl, q⟩
    refine ⟨cc, rfl, ?_⟩
    cases cc with
    | true => exact q
    | false =>
      obtain ⟨k2, e, q⟩ := q
      have e := V.bl.inj e
      subst e
      exact q
  unfold chE at h
  split at h
  · rename_i x y rest pos
    rw [Bool.and_eq_true] at h
    cases rest with
    | nil => exact PT.imp (pw_and (ha.t g h.1 n.1) (pw_and1 (hb.t g h.2 n.2))).pt im
    | cons z r => exact PT.imp (pw_and (ha.t g h.1 n.1) (pw_of (hb.t g h.2 n.2))).pt im
  · cases h
theorem snd_or (ha : Snd tab T G np a) (hb : Snd tab T G np b) : Snd tab T G np (.or a b) := .tst (fun _ _ => rfl) (fun _ _ _ => rfl) (fun {X k sc e} g h => by
  unfold chE at h
  split at h
  · rename_i x y rest pos
    rw [Bool.and_eq_true] at h
    cases rest with
    | nil => exact PE.imp (pe_or (ha.e g h.1) (pe_one (hb.e g h.2))) fun σ H Q q => tX_or q
    | cons z r => exact PE.imp (pe_or (ha.e g h.1) (hb.e g h.2)) fun σ H Q q => tX_or q
  · cases h) fun {X k sc e} g h n => by
  have n : (noIte a && noIte b) = true := n
  rw [Bool.and_eq_true] at n
  have im : ∀ σ H R, tTest (tX T G np X.K (.or a b)) σ H R → tOr (tTest (tX T G np X.K a)) (tTest (tX T G np X.K b)) σ H R := fun σ H R q => by
    have q : tX T G np X.K (.or a b) σ H fun x H1 => ∃ k, x = .bl k ∧ R k H1 := q
    refine tX_mono (tX_or q) ?_
    rintro v H1 ⟨cc, rfl, q⟩
    refine ⟨cc, rfl, ?_⟩
    cases cc with
    | false => exact q
    | true =>
      obtain ⟨k2, e, q⟩ := q
      have e := V.bl.inj e
      subst e
      exact q
  unfold chE at h
  split at h
  · rename_i x y rest pos
    rw [Bool.and_eq_true] at h
    cases rest with
    | nil => exact PT.imp (pw_or (ha.t g h.1 n.1) (pw_or1 (hb.t g h.2 n.2))).pt im
    | cons z r => exact PT.imp (pw_or (ha.t g h.1 n.1) (pw_of (hb.t g h.2 n.2))).pt im
  · cases h
theorem snd_ite (hc : Snd tab T G np c) (ha : Snd tab T G np a) (hb : Snd tab T G np b) : Snd tab T G np (.ite c a b) := .tst (fun _ _ => rfl) (fun _ _ _ => rfl) (fun {X k sc e} g h => by
  unfold chE at h
  split at h
  · simp only [Bool.and_eq_true] at h
    exact PE.imp (pe_ifExp (hc.t g h.1.1.1 h.1.1.2) (ha.e g h.1.2) (hb.e g h.2)) fun σ H Q q => tX_ite q
  · cases h) fun {X k sc e} g h n => by cases n
theorem snd_tup (ha : Snd tab T G np a) : Snd tab T G np (.tup a) := .plain (fun _ _ => rfl) (fun _ _ _ => rfl) fun {X k sc e} g h => by
  unfold chE at h
  split at h
  · exact ⟨PE.imp (pe_tupP (ha.l g h).2) fun σ H Q q => tX_tup q, rfl⟩
  · cases h
theorem snd_lst (ha : Snd tab T G np a) : Snd tab T G np (.lst a) := .plain (fun _ _ => rfl) (fun _ _ _ => rfl) fun {X k sc e} g h => by
  unfold chE at h
  split at h
  · exact ⟨PE.imp (pe_lst (ha.l g h).2) fun σ H Q q => tX_lst q, rfl⟩
  · cases h
theorem keysB_all : ∀ {ks : List Key} {keys : List (Option Expr)}, keysB ks keys = true → keys.all (·.isSome) = true ∧ keys.length = ks.length
  | [], [], _ => ⟨rfl, rfl⟩
  | [], _ :: _, h => by cases h
  | _ :: _, [], h => by cases h
  | k :: ks, none :: keys, h => by cases h
  | k :: ks, some e :: keys, h => by
    have h : (keyB k e && keysB ks keys) = true := h
    rw [Bool.and_eq_true] at h
    obtain ⟨h1, h2⟩ := keysB_all h.2
    exact ⟨by rw [List.all_cons, h1]; rfl, by simp [h2]⟩
theorem chL_len {sc : Sc} : ∀ {p : PX} {es : List Expr}, isList p = true → chL tab p sc es = true → es.length = lenX p
  | .nil, [], _, _ => rfl
  | .nil, _ :: _, _, h => by cases h
  | .cons a b, [], _, h => by cases h
  | .cons a b, e :: es, hl, h => by
    have h : (notStar e && chE tab a sc e && chL tab b sc es) = true := h
    simp only [Bool.and_eq_true] at h
    have := chL_len (p := b) hl h.2
    simp [lenX, this]
theorem tX_dct0 {K : W.Frag} {σV : L2.St} {H : Hp} {Q : VK} (h : tX T G np K (.dct [] .nil) σV H Q) : tDNewK σV H Q := by
  obtain ⟨N, Z, σ, tds, tvs, c, kk, e, lt, R, B, w, k⟩ := h
  have w : _ ∧ kk (.val (.dct [] [])) σ := w
  have F := fin_of (qt := false) (σ0 := σ) (H0 := H) R B (fun z => by cases z) k
  intro p hp
  exact F.dct [] [] p w.2 List.nodup_nil .nil hp
theorem snd_dct {ks : List Key} (ha : Snd tab T G np a) : Snd tab T G np (.dct ks a) := .plain (fun _ _ => rfl) (fun _ _ _ => rfl) fun {X k sc e} g h => by
  unfold chE at h
  split at h
  · simp only [Bool.and_eq_true] at h
    obtain ⟨h1, h2⟩ := h
    have h1 : ks = [] := List.isEmpty_iff.mp h1
    have h2 : a = .nil := by cases a <;> first | rfl | (cases h2; done)
    subst h1 h2
    exact ⟨PE.imp pe_dnewK fun σ H Q q => tX_dct0 q, rfl⟩
  · rename_i k0 keys vals pos
    simp only [Bool.and_eq_true, decide_eq_true_eq] at h
    obtain ⟨⟨⟨⟨h1, h2⟩, h3⟩, h4⟩, h5⟩ := h
    obtain ⟨h6, h7⟩ := keysB_all h1
    have h8 := chL_len h5 h2
    exact ⟨PE.imp (pe_disp (ha.d g h2 h1 h3) h6 (by omega) (by simp) (by omega)) fun σ H Q q => tX_dct h3.symm h5 q, rfl⟩
  · cases h
theorem snd_sub (ha : Snd tab T G np a) (hb : Snd tab T G np b) : Snd tab T G np (.sub a b) := .plain (fun _ _ => rfl) (fun _ _ _ => rfl) fun {X k sc e} g h => by
  unfold chE at h
  split at h
  · simp only [Bool.and_eq_true] at h
    exact ⟨PE.imp (pe_ix (ix_all (by have := g.at_.u64; omega)) (ha.e g h.1.2) (hb.e g h.2) (plainIx h.1.1)) fun σ H Q q => tX_sub q, rfl⟩
  · cases h
theorem part_ok (ha : Snd tab T G np a) {X : Cx} {k : Nat} {sc : Sc} {o : Option Expr} (g : Gd X k tab T G sc) (h : (match o with
      | none => isNonC a
      | some x => !isNonC a && chE tab a sc x) = true) : PO X o (tPartX T G np X.K a) := by
  cases o with
  | none =>
    have h : isNonC a = true := h
    unfold isNonC at h
    split at h
    · exact po_noneX
    · cases h
  | some x =>
    have h : (!isNonC a && chE tab a sc x) = true := h
    simp only [Bool.and_eq_true, Bool.not_eq_true'] at h
    exact po_someX h.1 (ha.e g h.2)
theorem snd_slc (ha : Snd tab T G np a) (hb : Snd tab T G np b) (hc : Snd tab T G np c) : Snd tab T G np (.slc a b c) := .plain (fun _ _ => rfl) (fun _ _ _ => rfl) fun {X k sc e} g h => by
  unfold chE at h
  split at h
  · rename_i v lo hi p2 pos
    rw [Bool.and_eq_true, Bool.and_eq_true] at h
    exact ⟨PE.imp (pe_slice sl_all (ha.e g h.1.1) (part_ok hb g h.1.2) (part_ok hc g h.2)) fun σ H Q q => tX_slc q, rfl⟩
  · cases h
theorem snd_rev (ha : Snd tab T G np a) : Snd tab T G np (.rev a) := .plain (fun _ _ => rfl) (fun _ _ _ => rfl) fun {X k sc e} g h => by
  unfold chE at h
  split at h
  · exact ⟨PE.imp (pe_revA (ha.e g h)) fun σ H Q q => tX_rev q, rfl⟩
  · cases h
theorem tXs_nil0 {X : Cx} {σ : L2.St} {H : Hp} {F : FnS} {Q : VK} (ha : a = .nil) (h : tCallG X.K F (tXs T G np X.K a) σ H Q) : tCallG X.K F tNil σ H Q := by
  subst ha
  exact tXs_nil (Q' := fun vs H1 => spOf X.K F vs H1 Q) h
theorem chL_nil {sc : Sc} (h : chL tab a sc [] = true) : a = .nil := by
  cases a <;> first | rfl | (cases h; done)
theorem snd_call {f : Nat} (ha : Snd tab T G np a) : Snd tab T G np (.call f a) := .plain (fun _ _ => rfl) (fun _ _ _ => rfl) fun {X k sc e} g h => by
  unfold chE at h
  split at h
  · rename_i x p0 args pos
    simp only [Bool.and_eq_true, Bool.not_eq_true'] at h
    obtain ⟨⟨⟨h1, h2⟩, h3⟩, h4⟩ := h
    obtain ⟨fa, fd, ps, F, t1, t2, t3, t4, t5, _⟩ := g.fx.fns f x (isAt_ok h1)
    refine ⟨?_, rfl⟩
    cases args with
    | nil =>
      have e := chL_nil h4
      exact PE.imp (pe_callG0 t2 g.at_ t5 (g.gl h2) t3 t4 h3) fun σ H Q q => tXs_nil0 e (tX_call t1 q)
    | cons y ys =>
      have st := chL_star h4
      rw [List.all_cons, Bool.and_eq_true] at st
      exact PE.imp (pe_callG t2 g.at_ t5 (g.gl h2) t3 t4 (ha.l g h4).1 h3 (starE _ _ _ st.1) (noStar st.2)) fun σ H Q q => tX_call t1 q
  · cases h
theorem kw_names {env : Env} {pos : Pos} : ∀ {kws : List Keyword} {ks : List Str}, kwNames kws = some ks → (backToKw pos (keywordEach kws env)).all (·.1.isSome) = true ∧ (backToKw pos (keywordEach kws env)).filterMap (·.1) = ks ∧ (backToKw pos (keywordEach kws env)).any (·.1.isNone) = false
  | [], ks, h => by
    have h := Option.some.inj h
    subst h; exact ⟨rfl, rfl, rfl⟩
  | ⟨none, v, p⟩ :: r, ks, h => by cases h
  | ⟨some n, v, p⟩ :: r, ks, h => by
    unfold kwNames at h
    cases e : kwNames r with
    | none => rw [e] at h; cases h
    | some l =>
      rw [e] at h
      have h := Option.some.inj h
      subst h
      obtain ⟨h1, h2, h3⟩ := kw_names (env := env) (pos := pos) e
      refine ⟨?_, ?_, ?_⟩
      · show (true && (backToKw pos (keywordEach r env)).all (·.1.isSome)) = true
        rw [h1]; rfl
      · show n :: (backToKw pos (keywordEach r env)).filterMap (·.1) = n :: l
        rw [h2]
      · show (false || (backToKw pos (keywordEach r env)).any (·.1.isNone)) = false
        rw [h3]; rfl
theorem snd_callK {f : Nat} {perm : List Nat} (ha : Snd tab T G np a) : Snd tab T G np (.callK f perm a) := .plain (fun _ _ => rfl) (fun _ _ _ => rfl) fun {X k sc e} g h => by
  unfold chE at h
  split at h
  · rename_i x p0 kws pos
    simp only [Bool.and_eq_true, Bool.not_eq_true'] at h
    obtain ⟨⟨⟨⟨⟨h1, h2⟩, h3⟩, h4⟩, h5⟩, h6⟩ := h
    obtain ⟨fa, fd, ps, F, t1, t2, t3, t4, t5, t6⟩ := g.fx.fns f x (isAt_ok h1)
    refine ⟨?_, rfl⟩
    cases e : kwNames kws with
    | none => rw [e] at h4; cases h4
    | some ks =>
      rw [e] at h4
      have h4 : (kwB tab f perm ks && decide (ks.length = lenX a)) = true := h4
      simp only [Bool.and_eq_true, decide_eq_true_eq] at h4
      obtain ⟨k1, k2, k3⟩ := kw_names (env := X.env) (pos := pos) e
      have := pe_callGK (p := p0) (pos := pos) t2 g.at_ (t6 ks perm h4.1) (g.gl h2) t3 t4 (ha.kw g h6) k1 k2 h3 (by rw [k3]; rfl)
      rw [h4.2] at this
      exact PE.imp this fun σ H Q q => tX_callK t1 h5 q
  · cases h
theorem tXs_mono {K : W.Frag} {p : PX} {σV : L2.St} {H : Hp} {Q Q' : List V → Hp → Prop} (h : tXs T G np K p σV H Q) (hq : ∀ v H, Q v H → Q' v H) : tXs T G np K p σV H Q' := by
  obtain ⟨N, Z, σ, tds, tvs, c, kk, e, lt, R, B, w, k⟩ := h
  exact ⟨N, Z, σ, tds, tvs, c, kk, e, lt, R, B, w, fun r σ' v H' Z' c' w' P => hq _ _ (k r σ' v H' Z' c' w' P)⟩
theorem boot_bi (b : Bi) : bootBuiltins b.nm = some b.val := by cases b <;> decide +kernel
theorem bi_mem (b : Bi) : b.nm ∈ bltNames := by cases b <;> decide +kernel
theorem bi_nn (b : Bi) : b.nm ≠ "__name__" := by cases b <;> decide +kernel
theorem bi_nd (b : Bi) : (b.nm == ("__debug__" : Str)) = false := by cases b <;> decide +kernel
theorem snd_bi {o : Bi} (ha : Snd tab T G np a) : Snd tab T G np (.bi o a) := .plain (fun _ _ => rfl) (fun _ _ _ => rfl) fun {X k sc e} g h => by
  unfold chE at h
  split at h
  · rename_i x p0 y args pos
    simp only [Bool.and_eq_true] at h
    obtain ⟨⟨h1, h2⟩, h3⟩ := h
    have h1 : x = o.nm := by simpa using h1
    subst h1
    have st := chL_star h3
    rw [List.all_cons, Bool.and_eq_true] at st
    refine ⟨?_, rfl⟩
    have hc := biS_ok (X := X) g.at_ o
    have hb := boot_bi o
    have hm := g.no (bi_mem o)
    have pa := (ha.l g h3).1
    have im : ∀ σ H Q, tX T G np X.K (.bi o a) σ H Q → tCB (rBi X.K o) (tXs T G np X.K a) σ H Q := fun σ H Q q => tX_bi q
    have s1 := starE y args X.env st.1
    have s2 := noStar (pos := pos) (env := X.env) st.2
    have n1 := bi_nn o
    have n2 := bi_nd o
    cases o <;> first
      | exact PE.imp (pe_callTy hc (g.gl h2) hm hb pa n1 n2 s1 s2) im
      | exact PE.imp (pe_callB hc (g.gl h2) hm hb pa n1 n2 s1 s2) im
  · cases h
theorem snd_isi {t : String} (ha : Snd tab T G np a) : Snd tab T G np (.isi t a) := .plain (fun _ _ => rfl) (fun _ _ _ => rfl) fun {X k sc e} g h => by
  unfold chE at h
  split at h
  · rename_i x p0 y z p1 pos
    simp only [Bool.and_eq_true, Bool.not_eq_true'] at h
    obtain ⟨⟨⟨⟨⟨⟨⟨⟨h1, h2⟩, h3⟩, h4⟩, ns⟩, h5⟩, h6⟩, h7⟩, h8⟩ := h
    have h1 : x = "isinstance" := by simpa using h1
    subst h1
    refine ⟨?_, rfl⟩
    cases e : bootBuiltins z with
    | none => rw [e] at h8; cases h8
    | some v =>
      rw [e] at h8
      cases v <;> first | (cases h8; done) | skip
      rename_i n
      have h8 : n = t := by
        have h8 : (n == t) = true := h8
        simpa using h8
      subst h8
      have hz : X.mg z = none := g.no (by simpa using h5)
      have pz : PE X (.Name z p1) (tC (.ty n)) := pe_bltn (u := .type n) (g.gl h3) hz e rfl (by simpa using h7) h6
      have hm : X.mg "isinstance" = none := g.no (by decide +kernel)
      exact PE.imp (pe_callB call_isi (g.gl h2) hm (by decide +kernel) (pa_cons (ha.e g h4) (pa_cons pz pa_nil) (starE _ _ _ ns)) (by decide +kernel) (by decide +kernel) (starE _ _ _ ns) rfl) fun σ H Q q => tX_isi q
  · cases h
end
end MP

set_option Elab.async false
set_option linter.all false
set_option maxRecDepth 100000
set_option maxHeartbeats 1000000
/-! The check is sound: methods, comprehensions, lists of expressions, walks. -/
namespace MP
open PySem PySem.Spec PyProof.Rows L2
section
variable {tab : Tab} {T : List FnS} {G : List D} {np : Nat} {p a b c : PX}
theorem tTs_mono {K : W.Frag} {p : PX} {σV : L2.St} {H : Hp} {Q Q' : List V → Hp → Prop} (h : tTs T G np K p σV H Q) (hq : ∀ v H, Q v H → Q' v H) : tTs T G np K p σV H Q' := by
  obtain ⟨N, Z, σ, tds, tvs, c, kk, e, lt, R, B, w, k⟩ := h
  exact ⟨N, Z, σ, tds, tvs, c, kk, e, lt, R, B, w, fun r σ' v H' Z' c' w' P => hq _ _ (k r σ' v H' Z' c' w' P)⟩
theorem chL_len2 {sc : Sc} {p : PX} {es : List Expr} (h : chL tab p sc es = true) : es.length = lenX p := by
  induction p generalizing es <;> first | (cases h; done) | skip
  · cases es with
    | nil => rfl
    | cons _ _ => cases h
  · rename_i a b _ ih
    cases es with
    | nil => cases h
    | cons e es =>
      have h : (notStar e && chE tab a sc e && chL tab b sc es) = true := h
      simp only [Bool.and_eq_true] at h
      simp [lenX, ih h.2]
theorem snd_mth {m : Mt} (ha : Snd tab T G np a) (hb : Snd tab T G np b) : Snd tab T G np (.mth m a b) := .plain (fun _ _ => rfl) (fun _ _ _ => rfl) fun {X k sc e} g h => by
  unfold chE at h
  split at h
  · rename_i o nm apos args cpos
    simp only [Bool.and_eq_true, decide_eq_true_eq] at h
    obtain ⟨⟨⟨⟨⟨h1, h2⟩, h3⟩, h4⟩, h5⟩, h6⟩ := h
    have h1 : nm = m.nm := by simpa using h1
    subst h1
    refine ⟨?_, rfl⟩
    have st := chL_star h5
    have bs := baseNo (nm := m.nm) (env := X.env) h3
    cases args with
    | nil =>
      have e := chL_nil h5
      subst e
      cases m <;> first | (exact absurd h6 (by decide)) | skip
      exact PE.imp (pe_bm0 F.plainAttrs_list F.slot_list_pop F.type_list_pop mt_pop (ha.e g h4) bs h2) fun σ H Q q => tX_mono (tX_mth q) fun x H1 ⟨ty, q⟩ => ⟨ty, tTs_nil (Q' := fun xs H2 => rPop x xs H2 Q) q⟩
    | cons y ys =>
      cases b <;> first | (cases h5; done) | skip
      rename_i b1 b2
      have h5' : (notStar y && chE tab b1 sc y && chL tab b2 sc ys) = true := h5
      simp only [Bool.and_eq_true] at h5'
      have hl := chL_len2 h5'.2
      have hm : m ≠ .pop := by
        rintro rfl
        simp only [lenX] at h6
        omega
      have hy : ys = [] := by
        refine List.eq_nil_of_length_eq_zero ?_
        cases m <;> (simp only [lenX] at h6; omega)
      subst hy
      rw [List.all_cons, Bool.and_eq_true] at st
      have few : ((backTo cpos (starEach [y] X.env)).all (fun x => !x.1) && (backToKw cpos (keywordEach [] X.env)).all (fun x => x.1.isSome) && decide (([y] : List Expr).length + ([] : List Keyword).length + (if ([] : List Keyword).isEmpty then 0 else 1) < 30)) = true := by
        rw [allStar (by rw [List.all_cons, st.1]; rfl)]; rfl
      have s1 := starE y [] X.env st.1
      have pa := (hb.l g h5).2
      cases m with
      | pop => exact absurd rfl hm
      | append => exact PE.imp (pe_bm F.plainAttrs_list F.slot_list_append F.type_list_append mt_append (ha.e g h4) pa bs few h2 s1 rfl) fun σ H Q q => tX_mth q
      | popAt => exact PE.imp (pe_bm F.plainAttrs_list F.slot_list_pop F.type_list_pop mt_popAt (ha.e g h4) pa bs few h2 s1 rfl) fun σ H Q q => tX_mth q
      | extend => exact PE.imp (pe_bm F.plainAttrs_list F.slot_list_extend F.type_list_extend mt_extend (ha.e g h4) pa bs few h2 s1 rfl) fun σ H Q q => tX_mth q
  · cases h
theorem ownOf_snd {vs : List Nat} : (ownOf tab vs).map (·.2) = vs := by
  unfold ownOf
  rw [List.map_map]
  exact List.map_id vs
structure LcP (tab : Tab) (T : List FnS) (G : List D) (np : Nat) (elt : PX) (tg : Tg) (it cond : PX) (vs : List Nat) (X : Cx) (el t iter : Expr) (ifs : List Expr) (scope : Scope) : Prop where
  calm : X.calm = true
  nd : X.N.Nodup
  i : PI X t iter (tI T G np X.K it)
  ok : BlkOk X.N X.env.scope scope (ownOf tab vs)
  g : ∀ (s : Shared) (H : Hp) (C : Addr) (cl : List (Str × Addr)) (fp : List Addr), PG (X.blk s H scope (compEnvC scope cl C X.env) fp) t (tT X.K np tg)
  t : ∀ (s : Shared) (H : Hp) (C : Addr) (cl : List (Str × Addr)) (fp : List Addr), PTs (X.blk s H scope (compEnvC scope cl C X.env) fp) ifs (tTest (tX T G np X.K cond))
  e : ∀ (s : Shared) (H : Hp) (C : Addr) (cl : List (Str × Addr)) (fp : List Addr), PE (X.blk s H scope (compEnvC scope cl C X.env) fp) el (tX T G np X.K elt)
  s : ∀ x, foldedSetIterable iter X.env x = pure x
  v : ∀ j, tgHas j tg = true → j ∈ vs
theorem lc_parts {elt it cond : PX} {tg : Tg} {vs : List Nat} (he : Snd tab T G np elt) (hi : Snd tab T G np it) (hc : Snd tab T G np cond) {X : Cx} {k : Nat} {sc : Sc} {el t iter : Expr} {ifs : List Expr} {scope : Scope} {pos : Pos} (g : Gd X k tab T G sc)
    (h : chE tab (.lc elt tg it cond vs) sc (.ListComp el [⟨t, iter, ifs, 0⟩] scope pos) = true) : LcP tab T G np elt tg it cond vs X el t iter ifs scope := by
  unfold chE at h
  simp only [Bool.and_eq_true] at h
  obtain ⟨⟨⟨⟨⟨⟨h1, h2⟩, h3⟩, h4⟩, h5⟩, h6⟩, h7⟩ := h
  have ok := g.blkOk h1
  have gb := fun s H C cl fp => g.blk ok.kind s H C cl fp
  refine ⟨g.at_.calm, g.ndX, hi.i g h2, ok, fun s H C cl fp => tg_ok (gb s H C cl fp) h4, fun s H C cl fp => ?_, fun s H C cl fp => he.e (gb s H C cl fp) h7, foldNo h3, fun j hj => ?_⟩
  · split at h6
    · unfold trueX at h6
      split at h6
      · refine PTs.imp pts_nil fun σ H R q => ?_
        have q : tX T G np X.K (.cst (.bl true)) σ H fun x H1 => ∃ k, x = .bl k ∧ R k H1 := q
        obtain ⟨k, e, q⟩ := tX_cst (v := .bl true) (fun Z H => .bl .nil) q
        have e := V.bl.inj e
        subst e
        exact q
      · cases h6
    · rw [Bool.and_eq_true] at h6
      exact pts_one (hc.t (gb s H C cl fp) h6.1 h6.2)
    · cases h6
  · cases tg with
    | one i =>
      have hj : (i == j) = true := hj
      have hj : i = j := by simpa using hj
      subst hj
      simpa using h5
    | many is =>
      have hj : is.contains j = true := hj
      have h5 : is.all vs.contains = true := h5
      rw [List.all_eq_true] at h5
      simpa using h5 j (by simpa using hj)
theorem snd_lc {elt it cond : PX} {tg : Tg} {vs : List Nat} (he : Snd tab T G np elt) (hi : Snd tab T G np it) (hc : Snd tab T G np cond) : Snd tab T G np (.lc elt tg it cond vs) := .plain (fun _ _ => rfl) (fun _ _ _ => rfl) fun {X k sc e} g h => by
  have h0 := h
  unfold chE at h
  split at h
  · rename_i el t iter ifs scope pos
    have L := lc_parts he hi hc g h0
    refine ⟨PE.imp (pe_lc L.calm L.nd L.i L.ok L.g L.t L.e L.s) fun σ H Q q => ?_, rfl⟩
    rw [ownOf_snd]
    exact tX_lc L.v q
  · cases h
theorem nilSnd : Snd tab T G np .nil where
  e := fun g h => by cases h
  t := fun g h => by cases h
  l := fun {X k sc es} g h => by
    cases es with
    | nil => exact ⟨PA.imp pa_nil fun σ H Q q => tXs_nil q, PA.imp pa_nil fun σ H Q q => tTs_nil q⟩
    | cons _ _ => cases h
  kw := fun {X k sc es} g h => by
    cases es with
    | nil => exact PK.imp pk_nil fun σ H Q q => tXs_nil q
    | cons _ _ => cases h
  d := fun {X k sc ks keys vals pos} g h h1 h2 => by
    cases vals with
    | nil =>
      cases ks with
      | nil =>
        cases keys with
        | nil => exact pps_nil
        | cons _ _ => cases h1
      | cons _ _ => simp [lenX] at h2
    | cons _ _ => cases h
  i := fun g h => by cases h
theorem keyE {k : Key} {e : Expr} {X : Cx} (h : keyB k e = true) : PE X e (tC (kV k)) := by
  unfold keyB at h
  split at h
  · have h := of_decide_eq_true h
    subst h
    exact pe_int
  · rename_i i j _ _
    have h : i = j := by simpa using h
    subst h
    exact pe_str
  · cases h
theorem consSnd (ha : Snd tab T G np a) (hb : Snd tab T G np b) : Snd tab T G np (.cons a b) where
  e := fun g h => by cases h
  t := fun g h => by cases h
  l := fun {X k sc es} g h => by
    cases es with
    | nil => cases h
    | cons e es =>
      have h : (notStar e && chE tab a sc e && chL tab b sc es) = true := h
      simp only [Bool.and_eq_true] at h
      have s1 := starE e es X.env h.1.1
      obtain ⟨l1, l2⟩ := hb.l g h.2
      exact ⟨PA.imp (pa_cons (ha.e g h.1.2) l1 s1) fun σ H Q q => tXs_cons q, PA.imp (pa_cons (ha.e g h.1.2) l2 s1) fun σ H Q q => tTs_cons q⟩
  kw := fun {X k sc es} g h => by
    cases es with
    | nil => cases h
    | cons kw es =>
      obtain ⟨nm, vl, kp⟩ := kw
      have h : (notStar vl && chE tab a sc vl && chL tab b sc (es.map (·.value))) = true := h
      simp only [Bool.and_eq_true] at h
      exact PK.imp (pk_cons (ha.e g h.1.2) (hb.kw g h.2)) fun σ H Q q => tXs_cons q
  d := fun {X k sc ks keys vals pos} g h h1 h2 => by
    cases vals with
    | nil => cases h
    | cons e es =>
      have h : (notStar e && chE tab a sc e && chL tab b sc es) = true := h
      simp only [Bool.and_eq_true] at h
      match ks, keys, h1, h2 with
      | k0 :: ks, some ke :: keys, h1, h2 =>
        have h1 : (keyB k0 ke && keysB ks keys) = true := h1
        rw [Bool.and_eq_true] at h1
        exact pps_cons (keyE h1.1) (ha.e g h.1.2) (hb.d g h.2 h1.2 (by simpa [lenX] using h2))
  i := fun g h => by cases h
theorem Snd.walk (hl : ∀ sc l, chL tab p sc l = false) (he : ∀ sc e, chE tab p sc e = false)
    (hi : ∀ {X : Cx} {k : Nat} {sc : Sc} {t e : Expr}, Gd X k tab T G sc → chI tab p sc t e = true → PI X t e (tI T G np X.K p)) : Snd tab T G np p where
  e := fun g h => by rw [he] at h; cases h
  t := fun g h => by rw [he] at h; cases h
  l := fun g h => by rw [hl] at h; cases h
  kw := fun g h => by rw [hl] at h; cases h
  d := fun g h => by rw [hl] at h; cases h
  i := hi
theorem snd_itx (ha : Snd tab T G np a) : Snd tab T G np (.itx a) := .walk (fun _ _ => rfl) (fun _ _ => rfl) fun {X k sc t e} g h =>
  PI.imp (pi_any (ha.e g h)) fun σ H R q => tI_itx q
theorem snd_rng (ha : Snd tab T G np a) (hb : Snd tab T G np b) : Snd tab T G np (.rng a b) := .walk (fun _ _ => rfl) (fun _ _ => rfl) fun {X k sc t e} g h => by
  unfold chI at h
  split at h
  · rename_i x p0 args pos
    simp only [Bool.and_eq_true] at h
    obtain ⟨⟨h1, h2⟩, h3⟩ := h
    have h1 : x = "range" := by simpa using h1
    subst h1
    have hm : X.mg "range" = none := g.no (by decide +kernel)
    have nst : ∀ {z : PX} {y : Expr}, Snd tab T G np z → notStar y = true → True := fun _ _ => trivial
    split at h3
    · rename_i y
      simp only [Bool.and_eq_true] at h3
      have hz : a = .cst (.int 0) := by
        have h3 := h3.1.1
        unfold zeroX at h3
        split at h3
        · rfl
        · cases h3
      subst hz
      exact PI.imp (pi_range1 (g.gl h2) hm (pa_cons (hb.e g h3.2) pa_nil (starE y [] X.env h3.1.2)) (starE y [] X.env h3.1.2)) fun σ H R q => tI_rng1 q
    · rename_i w y
      simp only [Bool.and_eq_true] at h3
      obtain ⟨⟨⟨s1, s2⟩, h3⟩, h4⟩ := h3
      exact PI.imp (pi_range2 (g.gl h2) hm (pa_cons (ha.e g h3) (pa_cons (hb.e g h4) pa_nil (starE y [] X.env s2)) (starE w [y] X.env s1)) (by rw [starE w [y] X.env s1, starE y [] X.env s2]; rfl) (by rw [starE y [] X.env s2]; rfl)) fun σ H R q => tI_rng2 q
    · cases h3
  · cases h
theorem snd_rng3 {c : PX} (ha : Snd tab T G np a) (hb : Snd tab T G np b) (hc : Snd tab T G np c) : Snd tab T G np (.rng3 a b c) := .walk (fun _ _ => rfl) (fun _ _ => rfl) fun {X k sc t e} g h => by
  unfold chI at h
  split at h
  · rename_i x p0 w y z pos
    simp only [Bool.and_eq_true] at h
    obtain ⟨⟨⟨⟨⟨⟨⟨h1, h2⟩, s1⟩, s2⟩, s3⟩, h3⟩, h4⟩, h5⟩ := h
    have h1 : x = "range" := by simpa using h1
    subst h1
    have hm : X.mg "range" = none := g.no (by decide +kernel)
    exact PI.imp (pi_range3 (g.gl h2) hm (pa_cons (ha.e g h3) (pa_cons (hb.e g h4) (pa_cons (hc.e g h5) pa_nil (starE z [] X.env s3)) (starE y [z] X.env s2)) (starE w [y, z] X.env s1)) (by rw [starE w [y, z] X.env s1, starE y [z] X.env s2, starE z [] X.env s3] <;> rfl) (by rw [starE y [z] X.env s2, starE z [] X.env s3] <;> rfl)) fun σ H R q => tI_rng3 q
  · cases h
theorem snd_enum (ha : Snd tab T G np a) : Snd tab T G np (.enum a) := .walk (fun _ _ => rfl) (fun _ _ => rfl) fun {X k sc t e} g h => by
  unfold chI at h
  split at h
  · split at h
    · rename_i x p0 y pos
      simp only [Bool.and_eq_true] at h
      obtain ⟨⟨⟨h1, h2⟩, s1⟩, h3⟩ := h
      have h1 : x = "enumerate" := by simpa using h1
      subst h1
      have hm : X.mg "enumerate" = none := g.no (by decide +kernel)
      exact PI.imp (pi_enumA (g.gl h2) hm (pa_cons (ha.e g h3) pa_nil (starE y [] X.env s1)) (starE y [] X.env s1)) fun σ H R q => tI_enum q
    · cases h
  · cases h
theorem snd_zip (ha : Snd tab T G np a) (hb : Snd tab T G np b) : Snd tab T G np (.zip a b) := .walk (fun _ _ => rfl) (fun _ _ => rfl) fun {X k sc t e} g h => by
  unfold chI at h
  split at h
  · split at h
    · rename_i x p0 y z pos
      simp only [Bool.and_eq_true] at h
      obtain ⟨⟨⟨⟨⟨h1, h2⟩, s1⟩, s2⟩, h3⟩, h4⟩ := h
      have h1 : x = "zip" := by simpa using h1
      subst h1
      have hm : X.mg "zip" = none := g.no (by decide +kernel)
      exact PI.imp (RZ.pi_zipA (g.gl h2) hm (pa_cons (ha.e g h3) (pa_cons (hb.e g h4) pa_nil (starE z [] X.env s2)) (starE y [z] X.env s1)) (starE y [z] X.env s1) (noStar (by rw [List.all_cons, s2]; rfl))) fun σ H R q => tI_zip q
    · cases h
  · cases h
theorem snd_lrg {tp : Bool} (ha : Snd tab T G np a) : Snd tab T G np (.lrg tp a) := .plain (fun _ _ => rfl) (fun _ _ _ => rfl) fun {X k sc e} g h => by
  unfold chE at h
  split at h
  · rename_i x p1 y p2 z p3 p4
    cases tp with
    | true =>
      simp only [Bool.and_eq_true] at h
      obtain ⟨⟨⟨⟨⟨h1, h2⟩, h3⟩, h4⟩, h5⟩, h6⟩ := h
      have h1 : x = "tuple" := eq_of_beq h1
      have h2 : y = "range" := eq_of_beq h2
      subst h1 h2
      have hr : X.mg "range" = none := g.no (by decide +kernel)
      have pr := prg_1 (p := p2) (pos := p3) (g.gl h4) hr (ha.e g h6) (starE z [] X.env h5)
      have hm : X.mg "tuple" = none := g.no (by decide +kernel)
      exact ⟨PE.imp (pe_tupRgP g.at_.calm (g.gl h3) hm pr rfl) fun σ H Q q => tX_lrg q, rfl⟩
    | false =>
      simp only [Bool.and_eq_true] at h
      obtain ⟨⟨⟨⟨⟨h1, h2⟩, h3⟩, h4⟩, h5⟩, h6⟩ := h
      have h1 : x = "list" := eq_of_beq h1
      have h2 : y = "range" := eq_of_beq h2
      subst h1 h2
      have hr : X.mg "range" = none := g.no (by decide +kernel)
      have pr := prg_1 (p := p2) (pos := p3) (g.gl h4) hr (ha.e g h6) (starE z [] X.env h5)
      have hm : X.mg "list" = none := g.no (by decide +kernel)
      exact ⟨PE.imp (pe_listRg g.at_.calm (g.gl h3) hm pr rfl) fun σ H Q q => tX_lrg q, rfl⟩
  · cases h
theorem snd_sst (ha : Snd tab T G np a) : Snd tab T G np (.sst a) := .plain (fun _ _ => rfl) (fun _ _ _ => rfl) fun {X k sc e} g h => by
  unfold chE at h
  split at h
  · rename_i x p1 y p2 z p3 p4
    simp only [Bool.and_eq_true] at h
    obtain ⟨⟨⟨⟨⟨h1, h2⟩, h3⟩, h4⟩, h5⟩, h6⟩ := h
    have h1 : x = "sorted" := eq_of_beq h1
    have h2 : y = "set" := eq_of_beq h2
    subst h1 h2
    have hs : X.mg "set" = none := g.no (by decide +kernel)
    have hm : X.mg "sorted" = none := g.no (by decide +kernel)
    have s1 := starE z [] X.env h5
    have pS := pe_callTy (p := p2) (pos := p3) (call_setS g.at_) (g.gl h4) hs rfl (pa_cons (ha.e g h6) pa_nil s1) (by decide) (by decide) s1 (by rfl)
    exact ⟨PE.imp (pe_callB (call_sortedS g.at_) (g.gl h3) hm rfl (pa_cons pS pa_nil rfl) (by decide) (by decide) rfl (by rfl)) fun σ H Q q => tX_sst q, rfl⟩
  · cases h
theorem tX_dget1 {K : W.Frag} {a i : PX} {σV : L2.St} {H : Hp} {Q : VK} (h : tX T G np K (.dget a i (.cst .non)) σV H Q) : tDGet1 (tX T G np K a) (tX T G np K i) σV H Q :=
  tX_mono (tX_dget h) fun x H1 ⟨p, e, d, q⟩ => ⟨p, e, d, tX_mono q fun y H2 q => tX_cst (v := .non) (fun Z H => .non .nil) q⟩
theorem snd_dc {kx vx it cond : PX} {tg : Tg} {vs : List Nat} (hk : Snd tab T G np kx) (he : Snd tab T G np vx) (hi : Snd tab T G np it) (hc : Snd tab T G np cond) : Snd tab T G np (.dc kx vx tg it cond vs) := .plain (fun _ _ => rfl) (fun _ _ _ => rfl) fun {X k sc e} g h => by
  unfold chE at h
  split at h
  · rename_i kl el t iter ifs scope pos
    simp only [Bool.and_eq_true] at h
    obtain ⟨h0, h8⟩ := h
    obtain ⟨h0, h7⟩ := h0
    have L := lc_parts (pos := pos) hk hi hc g (show chE tab (.lc kx tg it cond vs) sc (.ListComp kl [⟨t, iter, ifs, 0⟩] scope pos) = true from by
      unfold chE
      simp only [Bool.and_eq_true]
      exact ⟨h0, h7⟩)
    have ok := L.ok
    refine ⟨PE.imp (pe_dc L.calm L.nd L.i L.ok L.g L.t L.e (tv := tX T G np X.K vx) (fun s H C cl fp => he.e (g.blk ok.kind s H C cl fp) h8) L.s) fun σ H Q q => ?_, rfl⟩
    rw [ownOf_snd]
    exact tX_dc L.v q
  · cases h
theorem PE.or {X : Cx} {e : Expr} {t t' : TE} (h : PE X e t) (h' : PE X e t') : PE X e (fun σ H Q => t σ H Q ∨ t' σ H Q) :=
  ⟨fun pins s σ H Q I q => q.elim (fun q => h.run pins s σ H Q I q) fun q => h'.run pins s σ H Q I q⟩
theorem pe_varOf {X : Cx} {k i : Nat} {sc : Sc} {e : Expr} (g : Gd X k tab T G sc) (h : chE tab (.var i) sc e = true) : PE X e (tVar i) := by
  unfold chE at h
  split at h
  · simp only [Bool.and_eq_true, Bool.not_eq_true'] at h
    exact pe_var (g.at? h.1.1.1) (g.vis h.1.1.2) h.1.2 h.2
  · cases h
theorem chE_var {i : Nat} {sc : Sc} {e : Expr} : chE tab (.var i) sc e = varB tab sc i e := by
  unfold chE varB
  rfl
theorem chI_itx {a : PX} {sc : Sc} {t e : Expr} : chI tab (.itx a) sc t e = chE tab a sc e := by
  unfold chI
  rfl
theorem chE_lc {elt it cond : PX} {tg : Tg} {vs : List Nat} {sc : Sc} {el t iter : Expr} {ifs : List Expr} {scope : Scope} {pos : Pos} : chE tab (.lc elt tg it cond vs) sc (.ListComp el [⟨t, iter, ifs, 0⟩] scope pos) =
    (blkB tab sc scope (ownOf tab vs) && chI tab it sc t iter && notSet iter && tgB tab (blkSc sc scope) tg t && (match tg with
        | .one i => vs.contains i
        | .many is => is.all vs.contains) && (match ifs with
        | [] => trueX cond
        | [c] => chE tab cond (blkSc sc scope) c && noIte cond
        | _ => false) && chE tab elt (blkSc sc scope) el) := by
  conv => lhs; unfold chE
  rfl
theorem snd_lcd {elt cond : PX} {tg : Tg} {i : Nat} {vs : List Nat} (he : Snd tab T G np elt) (hc : Snd tab T G np cond) : Snd tab T G np (.lcd elt tg i cond vs) := .plain (fun _ _ => rfl) (fun _ _ _ => rfl) fun {X k sc e} g h => by
  unfold chE at h
  split at h
  · rename_i el t iter ifs scope pos
    have h0 : chE tab (.lc elt tg (.itx (.var i)) cond vs) sc (.ListComp el [⟨t, iter, ifs, 0⟩] scope pos) = true := by
      have e1 : chI tab (.itx (.var i)) sc t iter = varB tab sc i iter := by rw [chI_itx, chE_var]
      rw [chE_lc, e1]
      exact h
    have L := lc_parts he (snd_itx snd_var) hc g h0
    have hi : chE tab (.var i) sc iter = true := by
      simp only [Bool.and_eq_true] at h
      rw [chE_var]
      exact h.1.1.1.1.1.2
    have pv := pe_varOf g hi
    refine ⟨PE.imp (PE.or (pe_lock (pe_lc L.calm L.nd (pi_keys pv) L.ok L.g L.t L.e L.s)) (pe_lc L.calm L.nd (pi_keys pv) L.ok L.g L.t L.e L.s)) fun σ H Q q => ?_, rfl⟩
    rw [ownOf_snd]
    exact tX_lcd L.v q
  · cases h
theorem snd_nile {ne : Bool} {a : PX} (ha : Snd tab T G np a) : Snd tab T G np (.nile ne a) := .tst (fun _ _ => rfl) (fun _ _ _ => rfl) (fun {X k sc e} g h => by
  unfold chE at h
  split at h
  · simp only [Bool.and_eq_true, decide_eq_true_eq] at h
    obtain ⟨h1, h2⟩ := h
    subst h1
    exact PE.imp (pe_cmpR (op_nile (by have := g.at_.u64; omega) ne) (ha.e g h2) (pe_lst pa_nil) (by cases ne <;> rfl)) fun σ H Q q => tX_nile q
  · cases h) fun {X k sc e} g h n => by
  unfold chE at h
  split at h
  · simp only [Bool.and_eq_true, decide_eq_true_eq] at h
    obtain ⟨h1, h2⟩ := h
    subst h1
    exact PT.imp (pt_cmpR (op_nile (by have := g.at_.u64; omega) ne) (ha.e g h2) (pe_lst pa_nil) (by cases ne <;> rfl)) fun σ H Q q => tX_nile q
  · cases h
theorem snd_frz {a : PX} (ha : Snd tab T G np a) : Snd tab T G np (.frz a) := .plain (fun _ _ => rfl) (fun _ _ _ => rfl) fun {X k sc e} g h => by
  unfold chE at h
  split at h
  · exact ⟨PE.imp (ha.e g h) fun σ H Q q => tX_frz q, rfl⟩
  · exact ⟨PE.imp (ha.e g h) fun σ H Q q => tX_frz q, rfl⟩
  · exact ⟨PE.imp (ha.e g h) fun σ H Q q => tX_frz q, rfl⟩
  · cases h
theorem snd_dget {a i b : PX} (ha : Snd tab T G np a) (hi : Snd tab T G np i) (hb : Snd tab T G np b) : Snd tab T G np (.dget a i b) := .plain (fun _ _ => rfl) (fun _ _ _ => rfl) fun {X k sc e} g h => by
  unfold chE at h
  split at h
  · rename_i o nm apos args cpos
    simp only [Bool.and_eq_true] at h
    obtain ⟨⟨⟨⟨h1, h2⟩, h3⟩, h4⟩, h5⟩ := h
    have h1 : nm = ("get" : Str) := eq_of_beq h1
    subst h1
    refine ⟨?_, rfl⟩
    have bs := baseNo (nm := "get") (env := X.env) h3
    have hu : X.A.units + 1 < cLine := by have := g.at_.u64; omega
    split at h5
    · rename_i y
      simp only [Bool.and_eq_true] at h5
      obtain ⟨⟨s1, s2⟩, h6⟩ := h5
      have few : ((backTo cpos (starEach [y] X.env)).all (fun x => !x.1) && (backToKw cpos (keywordEach [] X.env)).all (fun x => x.1.isSome) && decide (([y] : List Expr).length + ([] : List Keyword).length + (if ([] : List Keyword).isEmpty then 0 else 1) < 30)) = true := by
        rw [allStar (by rw [List.all_cons, s1]; rfl)]; rfl
      have hb : b = .cst .non := by
        unfold isNonC at s2
        split at s2
        · rfl
        · cases s2
      subst hb
      exact PE.imp (pe_dget1 hu (ha.e g h4) (hi.e g h6) ⟨bs, few, h2, by rw [starE y [] X.env s1]; rfl⟩) fun σ H Q q => tX_dget1 q
    · rename_i y z
      simp only [Bool.and_eq_true] at h5
      obtain ⟨⟨⟨s1, s2⟩, h6⟩, h7⟩ := h5
      have few : ((backTo cpos (starEach [y, z] X.env)).all (fun x => !x.1) && (backToKw cpos (keywordEach [] X.env)).all (fun x => x.1.isSome) && decide (([y, z] : List Expr).length + ([] : List Keyword).length + (if ([] : List Keyword).isEmpty then 0 else 1) < 30)) = true := by
        rw [allStar (by rw [List.all_cons, s1, List.all_cons, s2]; rfl)]; rfl
      exact PE.imp (pe_dget2 hu (ha.e g h4) (hi.e g h6) (hb.e g h7) ⟨bs, few, h2, by rw [starE y [z] X.env s1, starE z [] X.env s2]; rfl⟩) fun σ H Q q => tX_dget q
    · cases h5
  · cases h
theorem snd : ∀ p : PX, Snd tab T G np p
  | .var _ => snd_var
  | .cst _ => snd_cst
  | .glo _ => snd_glo
  | .bin _ a b => snd_bin (snd a) (snd b)
  | .neg a => snd_neg (snd a)
  | .not a => snd_not (snd a)
  | .cmp _ a b => snd_cmp (snd a) (snd b)
  | .chn _ _ a b c => snd_chn (snd a) (snd b) (snd c)
  | .and a b => snd_and (snd a) (snd b)
  | .or a b => snd_or (snd a) (snd b)
  | .ite c a b => snd_ite (snd c) (snd a) (snd b)
  | .tup a => snd_tup (snd a)
  | .lst a => snd_lst (snd a)
  | .dct _ a => snd_dct (snd a)
  | .nil => nilSnd
  | .cons a b => consSnd (snd a) (snd b)
  | .sub a b => snd_sub (snd a) (snd b)
  | .slc a b c => snd_slc (snd a) (snd b) (snd c)
  | .rev a => snd_rev (snd a)
  | .call _ a => snd_call (snd a)
  | .callK _ _ a => snd_callK (snd a)
  | .bi _ a => snd_bi (snd a)
  | .isi _ a => snd_isi (snd a)
  | .mth _ a b => snd_mth (snd a) (snd b)
  | .lc e _ i c _ => snd_lc (snd e) (snd i) (snd c)
  | .lrg _ a => snd_lrg (snd a)
  | .sst a => snd_sst (snd a)
  | .dc kx vx _ it c _ => snd_dc (snd kx) (snd vx) (snd it) (snd c)
  | .dget a i b => snd_dget (snd a) (snd i) (snd b)
  | .lcd e _ _ c _ => snd_lcd (snd e) (snd c)
  | .frz a => snd_frz (snd a)
  | .nile _ a => snd_nile (snd a)
  | .itx a => snd_itx (snd a)
  | .rng a b => snd_rng (snd a) (snd b)
  | .rng3 a b c => snd_rng3 (snd a) (snd b) (snd c)
  | .enum a => snd_enum (snd a)
  | .zip a b => snd_zip (snd a) (snd b)
end
end MP

set_option Elab.async false
set_option linter.all false
set_option maxRecDepth 100000
set_option maxHeartbeats 1000000
/-! The check of statements, and what it gives. -/
namespace MP
open PySem PySem.Spec PyProof.Rows L2

def lclB (sc : Sc) (x : Str) : Bool := match sc.names.lookup x with
  | some .local => true
  | _ => false
def noOwn (scope : Scope) (y : Str) : Bool := !(scope.names.any fun (n, k) => n == y && (k == .local || k == .cell))
def isLc : PX → Bool
  | .lc _ _ _ _ _ => true
  | _ => false
section
variable (tab : Tab)
def chS1 : PSt → Sc → Stmt → Bool
  | .exp e, sc, s => (match s with
    | .Expr x _ => notComp x && chE tab e sc x
    | _ => false)
  | .asg t e, sc, s => (match s with
    | .Assign [tg] v _ => (match t with
      | .one i => (match tg with
        | .Name x px => isAt tab.N i x && chE tab e sc v && (match v with
          | .ListComp _ _ scope pos => lclB sc x && (px.line == pos.line) && noOwn scope x && isLc e
          | _ => notComp v && locB sc x)
        | _ => false)
      | .many is => (match tg with
        | .Tuple es _ _ => namesB tab sc is es && chE tab e sc v && notTup v
        | _ => false))
    | _ => false)
  | .par i j a b, sc, s => (match s with
    | .Assign [.Tuple [.Name x px, .Name y py] _ _] (.Tuple [v, w] _ _) _ => isAt tab.N i x && isAt tab.N j y && !(i == j) && lclB sc x && lclB sc y && (px.line == py.line) && !(x == y) && notStar v && notStar w && chE tab a sc v && chE tab b sc w
      && !([v, w].all (foldedForSure 8)) && !([v, w].all (constantsAlone 8)) || ((!lclB sc x || !lclB sc y) && namesB tab sc [i, j] [.Name x px, .Name y py] && notStar v && notStar w && chE tab a sc v && chE tab b sc w)
    | _ => false)
  | .par3 i j l a b c, sc, s => (match s with
    | .Assign [.Tuple [.Name x px, .Name y py, .Name z pz] _ _] (.Tuple [v, w, u] _ _) _ => isAt tab.N i x && isAt tab.N j y && isAt tab.N l z && !(i == j) && !(i == l) && !(j == l) && lclB sc x && lclB sc y && lclB sc z && (px.line == py.line) && (px.line == pz.line) && !(x == y) && !(x == z) && !(y == z)
      && notStar v && notStar w && notStar u && chE tab a sc v && chE tab b sc w && chE tab c sc u && !([v, w, u].all (foldedForSure 8)) && !([v, w, u].all (constantsAlone 8)) || ((!lclB sc x || (!lclB sc y || !lclB sc z)) && namesB tab sc [i, j, l] [.Name x px, .Name y py, .Name z pz] && notStar v && notStar w && notStar u && chE tab a sc v && chE tab b sc w && chE tab c sc u)
    | _ => false)
  | .unl is e, sc, s => (match s with
    | .Assign [.Tuple es _ _] v _ => namesB tab sc is es && chE tab e sc v && notTup v
    | _ => false)
  | .asgS a i e, sc, s => (match s with
    | .Assign [.Subscript o ix _] v _ => notSlice ix && chE tab e sc v && chE tab a sc o && chE tab i sc ix
    | _ => false)
  | .aug i op e, sc, s => (match s with
    | .AugAssign (.Name x _) o v _ => isAt tab.N i x && locB sc x && decide (op = o) && decide (op = .Add ∨ op = .Sub) && chE tab e sc v
    | _ => false)
  | .ret e, sc, s => (match s with
    | .Return (some v) _ => chE tab e sc v
    | _ => false)
  | .retN, _, s => (match s with
    | .Return none _ => true
    | _ => false)
  | .pas, _, s => (match s with
    | .Pass _ => true
    | .Expr (.Constant (.str _) _ _) _ => true
    | _ => false)
  | .brk, _, s => (match s with
    | .Break _ => true
    | _ => false)
  | .cnt, _, s => (match s with
    | .Continue _ => true
    | _ => false)
  | .nev, _, _ => true
  | _, _, _ => false
def chSs : PSt → Sc → List Stmt → Bool
  | .nil, _, l => l.isEmpty
  | .cons s r, sc, l => (match l with
    | st :: rest => (match s with
      | .ite c a b => (match st with
        | .If t p q _ => chE tab c sc t && noIte c && chSs a sc p && chSs b sc q
        | _ => false)
      | .whl c b => (match st with
        | .While t p [] _ => chE tab c sc t && noIte c && chSs b sc p
        | _ => false)
      | .for_ tg it b => (match st with
        | .For t i p [] _ => chI tab it sc t i && notSet i && tgB tab sc tg t && chSs b sc p
        | _ => false)
      | s => chS1 tab s sc st) && chSs r sc rest
    | [] => false)
  | .nev, _, _ => true
  | _, _, _ => false
end
section
variable {X : Cx} {k : Nat} {tab : Tab} {T : List FnS} {G : List D} {sc : Sc} {np : Nat}
theorem Gd.lcl (g : Gd X k tab T G sc) {x : Str} (h : lclB sc x = true) : X.env.scope.names.lookup x = some .local := by
  unfold lclB at h
  rw [g.names]
  split at h
  · assumption
  · cases h
theorem sw_no {v : Expr} {t : Option Expr} {l : Nat} {env : Env} (h : notComp v = true) : swapsWith v t l env = pure false := by
  cases v <;> first | rfl | (cases h; done)
theorem swS_no {v t : Expr} {l : Nat} {env : Env} (h : notComp v = true) : swapsWithSole [t] v l env = pure false := by
  unfold swapsWithSole
  exact sw_no h
theorem swS_tup {v : Expr} {es : List Expr} {k : Nat} {p : Pos} {l : Nat} {env : Env} : swapsWithSole [.Tuple es k p] v l env = pure false := by
  unfold swapsWithSole
  cases v <;> rfl
theorem swS_sub {v o i : Expr} {p : Pos} {l : Nat} {env : Env} : swapsWithSole [.Subscript o i p] v l env = pure false := by
  unfold swapsWithSole
  cases v <;> rfl
theorem st_sub {o i v : Expr} {p : Pos} {env : Env} : swappedStores [.Subscript o i p] v env = pure none := by cases v <;> rfl
theorem st_no {t v : Expr} {env : Env} (h : notTup v = true) : swappedStores [t] v env = pure none := by
  cases v <;> first | (cases h; done) | (cases t <;> rfl)
theorem ae_one {t : Expr} {env : Env} (h : notStar t = true) : (assignEach [t] env).map (·.2) = [assign t env] := by
  cases t <;> first | rfl | (cases h; done)
theorem sub_as {o i : Expr} {pos : Pos} {env : Env} (h : notSlice i = true) : ∀ v, assign (.Subscript o i pos) env v = (do
      let ov ← holding [v] (eval o env)
      let iv ← holding [v, ov] (eval i env)
      standAt pos
      holding [v, ov, iv] (setItem ov iv v)
      release [v, ov, iv] []) := by
  intro v
  cases i <;> first | rfl | (cases h; done)
theorem par_sw (g : Gd X k tab T G sc) {x y : Str} {px py pt : Pos} {kt k2 : Nat} {pt2 : Pos} {v w : Expr} (hx : lclB sc x = true) (hy : lclB sc y = true) (hl : (px.line == py.line) = true) (hn : (x == y) = false) (hv : notStar v = true) (hw : notStar w = true)
    (h1 : [v, w].all (foldedForSure 8) = false) (h2 : [v, w].all (constantsAlone 8) = false) :
    swappedStores [.Tuple [.Name x px, .Name y py] kt pt] (.Tuple [v, w] k2 pt2) X.env = pure (some [x, y]) := by
  have kx : X.env.kindOf x = some .local := g.lcl hx
  have ky : X.env.kindOf y = some .local := g.lcl hy
  have hb : X.env.blockKind = .function := by unfold Env.blockKind; rw [g.kind]; rfl
  have hst : ([v, w].any fun | .Starred .. => true | _ => false) = false := by
    cases v <;> first | (cases hv; done) | (cases w <;> first | (cases hw; done) | rfl)
  have hl' : py.line = px.line := by simpa using (beq_iff_eq.mp hl).symm
  have hne : ¬ (y = x) := fun e => by subst e; simp at hn
  have hne' : ¬ (x = y) := fun e => by subst e; simp at hn
  have hyx : (y == x) = false := by simpa using hne
  unfold swappedStores
  simp only [hb, hst, h1, h2]
  simp [kx, ky, hl', List.eraseDups, List.eraseDupsBy, List.eraseDupsBy.loop, hne, hne', hyx, Expr.pos]
  intro hh
  exfalso
  rcases hh with hh | hh
  · cases v <;> first | (cases hv; done) | (cases hh; done)
  · cases w <;> first | (cases hw; done) | (cases hh; done)
theorem par3_sw (g : Gd X k tab T G sc) {x y z : Str} {px py pz pt : Pos} {kt k2 : Nat} {pt2 : Pos} {v w u : Expr} (hx : lclB sc x = true) (hy : lclB sc y = true) (hz : lclB sc z = true) (hl : (px.line == py.line) = true) (hl2 : (px.line == pz.line) = true) (hn : (x == y) = false) (hn2 : (x == z) = false) (hn3 : (y == z) = false)
    (hv : notStar v = true) (hw : notStar w = true) (hu : notStar u = true) (h1 : [v, w, u].all (foldedForSure 8) = false) (h2 : [v, w, u].all (constantsAlone 8) = false) :
    swappedStores [.Tuple [.Name x px, .Name y py, .Name z pz] kt pt] (.Tuple [v, w, u] k2 pt2) X.env = pure (some [x, y, z]) := by
  have kx : X.env.kindOf x = some .local := g.lcl hx
  have ky : X.env.kindOf y = some .local := g.lcl hy
  have kz : X.env.kindOf z = some .local := g.lcl hz
  have hb : X.env.blockKind = .function := by unfold Env.blockKind; rw [g.kind]; rfl
  have hl' : py.line = px.line := by simpa using (beq_iff_eq.mp hl).symm
  have hl2' : pz.line = px.line := by simpa using (beq_iff_eq.mp hl2).symm
  have e1 : (y == x) = false := by
    have : ¬ (y = x) := fun e => by subst e; simp at hn
    simpa using this
  have e2 : (z == x) = false := by
    have : ¬ (z = x) := fun e => by subst e; simp at hn2
    simpa using this
  have e3 : (z == y) = false := by
    have : ¬ (z = y) := fun e => by subst e; simp at hn3
    simpa using this
  unfold swappedStores
  simp only [hb, h1, h2]
  simp [kx, ky, kz, hl', hl2', List.eraseDups, List.eraseDupsBy, List.eraseDupsBy.loop, e1, e2, e3, Expr.pos]
  intro hh
  exfalso
  rcases hh with hh | hh | hh
  · cases v <;> first | (cases hv; done) | (cases hh; done)
  · cases w <;> first | (cases hw; done) | (cases hh; done)
  · cases u <;> first | (cases hu; done) | (cases hh; done)
theorem Gd.lclNo (g : Gd X k tab T G sc) {x : Str} (h : lclB sc x = false) : (X.env.kindOf x == some .local) = false := by
  have e : X.env.kindOf x = sc.names.lookup x := by rw [← g.names]; rfl
  rw [e]
  unfold lclB at h
  split at h
  · cases h
  · rename_i q
    rw [beq_eq_false_iff_ne]
    exact q
theorem fm_ne {α β : Type} {f : α → Option β} {e : α} (he : f e = none) : ∀ {l : List α}, e ∈ l → (l.filterMap f).length ≠ l.length
  | [], h => by cases h
  | a :: l, h => by
    have hl := List.length_filterMap_le f l
    rw [List.filterMap_cons]
    rcases List.mem_cons.mp h with rfl | h
    · rw [he, List.length_cons]; show (l.filterMap f).length ≠ _; omega
    · have := fm_ne he h
      split <;> simp only [List.length_cons] <;> omega
theorem par_none {env : Env} {x y : Str} {px py pt : Pos} {kt k2 : Nat} {pt2 : Pos} {v w : Expr} (h : (env.kindOf x == some .local) = false ∨ (env.kindOf y == some .local) = false) :
    swappedStores [.Tuple [.Name x px, .Name y py] kt pt] (.Tuple [v, w] k2 pt2) env = pure none := by
  unfold swappedStores
  dsimp only
  split
  · rfl
  · split
    · rfl
    · split
      · rfl
      · rename_i hq
        exfalso
        apply hq
        rw [Bool.or_eq_true]
        left
        rw [bne_iff_ne]
        rcases h with h | h
        · exact fm_ne (e := .Name x px) (by simp only [h, Bool.false_and]; rfl) (by simp)
        · exact fm_ne (e := .Name y py) (by simp only [h, Bool.false_and]; rfl) (by simp)
theorem par3_none {env : Env} {x y z : Str} {px py pz pt : Pos} {kt k2 : Nat} {pt2 : Pos} {v w u : Expr} (h : (env.kindOf x == some .local) = false ∨ ((env.kindOf y == some .local) = false ∨ (env.kindOf z == some .local) = false)) :
    swappedStores [.Tuple [.Name x px, .Name y py, .Name z pz] kt pt] (.Tuple [v, w, u] k2 pt2) env = pure none := by
  unfold swappedStores
  dsimp only
  split
  · rfl
  · split
    · rfl
    · split
      · rfl
      · rename_i hq
        exfalso
        apply hq
        rw [Bool.or_eq_true]
        left
        rw [bne_iff_ne]
        rcases h with h | h | h
        · exact fm_ne (e := .Name x px) (by simp only [h, Bool.false_and]; rfl) (by simp)
        · exact fm_ne (e := .Name y py) (by simp only [h, Bool.false_and]; rfl) (by simp)
        · exact fm_ne (e := .Name z pz) (by simp only [h, Bool.false_and]; rfl) (by simp)
theorem chS1_ok (g : Gd X k tab T G sc) (hxe : X.xe = fun _ _ => False) {p : PSt} {s : Stmt} (h : chS1 tab p sc s = true) : PS X s (tS T G np X.K p) := by
  cases p with
  | exp e =>
    simp only [chS1] at h
    split at h
    · rw [Bool.and_eq_true] at h
      exact PS.imp (ps_expr ((snd e).e g h.2) (sw_no h.1)) fun D σ H q => tS_exp q
    · cases h
  | asg t e =>
    simp only [chS1] at h
    split at h
    · cases t with
      | one i =>
        simp only at h
        split at h
        · rename_i pos _ x px
          simp only [Bool.and_eq_true] at h
          obtain ⟨⟨h1, h2⟩, h3⟩ := h
          split at h3
          · rename_i el gens scope lp
            simp only [Bool.and_eq_true] at h3
            obtain ⟨⟨⟨h3, h4⟩, h5⟩, h6⟩ := h3
            have hno : (scope.names.any fun (n, k) => n == x && (k == .local || k == .cell)) = false := by
              unfold noOwn at h5
              simpa using h5
            cases e <;> first | (unfold chE at h2; cases h2; done) | (cases h6; done) | skip
            rename_i elt tg it cond vs
            have h0 := h2
            unfold chE at h0
            split at h0
            · rename_i el' t' iter ifs scope' pos' heq
              obtain ⟨rfl, rfl, rfl, rfl⟩ := Expr.ListComp.inj heq
              have L := lc_parts (np := np) (snd (np := np) (T := T) (G := G) elt) (snd it) (snd cond) g h2
              refine PS.imp (ps_setLc L.calm L.nd (g.at? h1) (g.lcl h3) (sw_true g.kind (g.lcl h3) h4 hno) L.i L.ok L.g L.t L.e L.s) fun D σ H q => ?_
              rw [ownOf_snd]
              exact tX_lc L.v (tS_asg1 q)
            · cases h0
          · rw [Bool.and_eq_true] at h3
            obtain ⟨l1, l2⟩ := g.loc h3.2
            exact PS.imp (ps_set g.ndX (g.at? h1) l1 ((snd e).e g h2) (sw_no h3.1) l2) fun D σ H q => tS_asg1 q
        · cases h
      | many is =>
        simp only at h
        split at h
        · simp only [Bool.and_eq_true] at h
          obtain ⟨⟨h1, h2⟩, h4⟩ := h
          obtain ⟨p1, p2, p3⟩ := tg_names g h1
          exact PS.imp (ps_asg ((snd e).e g h2) (pg_tup g.at_.calm p1 p2 p3) (swS_tup) (st_no h4) rfl) fun D σ H q => tS_asgM q
        · cases h
    · cases h
  | par i j a b =>
    simp only [chS1] at h
    split at h
    · rename_i x px y py _ _ v w _ _ _
      rcases Bool.or_eq_true_iff.mp h with h | h
      rotate_left
      · simp only [Bool.and_eq_true, Bool.or_eq_true, Bool.not_eq_true'] at h
        obtain ⟨⟨⟨⟨⟨h1, h2⟩, h8⟩, h9⟩, h10⟩, h11⟩ := h
        have hc : chL tab (.cons a (.cons b .nil)) sc [v, w] = true := by
          show (notStar v && chE tab a sc v && (notStar w && chE tab b sc w && true)) = true
          rw [h8, h9, h10, h11]; rfl
        obtain ⟨p1, p2, p3⟩ := tg_names g h2
        exact PS.imp (ps_asg (pe_tup ((snd (.cons a (.cons b .nil))).l g hc).2) (pg_tup g.at_.calm p1 p2 p3) (swS_tup) (par_none (h1.imp g.lclNo g.lclNo)) rfl) fun D σ H q => tS_parU q
      simp only [Bool.and_eq_true, Bool.not_eq_true'] at h
      obtain ⟨⟨⟨⟨⟨⟨⟨⟨⟨⟨⟨⟨h1, h2⟩, h3⟩, h4⟩, h5⟩, h6⟩, h7⟩, h8⟩, h9⟩, h10⟩, h11⟩, h12⟩, h13⟩ := h
      have hc : chL tab (.cons a (.cons b .nil)) sc [v, w] = true := by
        show (notStar v && chE tab a sc v && (notStar w && chE tab b sc w && true)) = true
        rw [h8, h9, h10, h11]; rfl
      exact PS.imp (ps_par g.at_.calm g.ndX (g.at? h1) (g.at? h2) (by simpa using h3) (g.lcl h4) (g.lcl h5) ((snd (.cons a (.cons b .nil))).l g hc).2
        (par_sw g h4 h5 h6 h7 h8 h9 h12 h13) (by rfl)) fun D σ H q => tS_par q
    · cases h
  | par3 i j l a b c =>
    simp only [chS1] at h
    split at h
    · rename_i x px y py z pz _ _ v w u _ _ _
      rcases Bool.or_eq_true_iff.mp h with h | h
      rotate_left
      · simp only [Bool.and_eq_true, Bool.or_eq_true, Bool.not_eq_true'] at h
        obtain ⟨⟨⟨⟨⟨⟨⟨h1, h2⟩, s1⟩, s2⟩, s3⟩, c1⟩, c2⟩, c3⟩ := h
        have hc : chL tab (.cons a (.cons b (.cons c .nil))) sc [v, w, u] = true := by
          show (notStar v && chE tab a sc v && (notStar w && chE tab b sc w && (notStar u && chE tab c sc u && true))) = true
          rw [s1, s2, s3, c1, c2, c3]; rfl
        obtain ⟨p1, p2, p3⟩ := tg_names g h2
        exact PS.imp (ps_asg (pe_tup ((snd (.cons a (.cons b (.cons c .nil)))).l g hc).2) (pg_tup g.at_.calm p1 p2 p3) (swS_tup) (par3_none (h1.imp g.lclNo fun h => h.imp g.lclNo g.lclNo)) rfl) fun D σ H q => tS_par3U q
      simp only [Bool.and_eq_true, Bool.not_eq_true'] at h
      obtain ⟨⟨⟨⟨⟨⟨⟨⟨⟨⟨⟨⟨⟨⟨⟨⟨⟨⟨⟨⟨⟨n1, n2⟩, n3⟩, i1⟩, i2⟩, i3⟩, l1⟩, l2⟩, l3⟩, p1⟩, p2⟩, d1⟩, d2⟩, d3⟩, s1⟩, s2⟩, s3⟩, c1⟩, c2⟩, c3⟩, k1⟩, k2⟩ := h
      have hc : chL tab (.cons a (.cons b (.cons c .nil))) sc [v, w, u] = true := by
        show (notStar v && chE tab a sc v && (notStar w && chE tab b sc w && (notStar u && chE tab c sc u && true))) = true
        rw [s1, s2, s3, c1, c2, c3]; rfl
      exact PS.imp (ps_par3 g.at_.calm g.ndX (g.at? n1) (g.at? n2) (g.at? n3) (by simpa using i1) (by simpa using i2) (by simpa using i3) (g.lcl l1) (g.lcl l2) (g.lcl l3) ((snd (.cons a (.cons b (.cons c .nil)))).l g hc).2
        (par3_sw g l1 l2 l3 p1 p2 d1 d2 d3 s1 s2 s3 k1 k2) (by rfl)) fun D σ H q => tS_par3 q
    · cases h
  | unl is e =>
    simp only [chS1] at h
    split at h
    · simp only [Bool.and_eq_true] at h
      obtain ⟨⟨h1, h2⟩, h4⟩ := h
      obtain ⟨p1, p2, p3⟩ := tg_names g h1
      exact PS.imp (ps_asg ((snd e).e g h2) (pg_unl g.at_.calm p1 p2 p3) (swS_tup) (st_no h4) rfl) fun D σ H q => tS_unl q
    · cases h
  | asgS a i e =>
    simp only [chS1] at h
    split at h
    · simp only [Bool.and_eq_true] at h
      obtain ⟨⟨⟨h1, h3⟩, h4⟩, h5⟩ := h
      exact PS.imp (ps_asg ((snd e).e g h3) (pg_sub ((snd a).e g h4) ((snd i).e g h5) (set_both (by have := g.at_.u64; omega)) (sub_as h1)) (swS_sub) st_sub rfl) fun D σ H q => tS_asgS q
    · cases h
  | aug i op e =>
    simp only [chS1] at h
    split at h
    · simp only [Bool.and_eq_true, decide_eq_true_eq] at h
      obtain ⟨⟨⟨⟨h1, h2⟩, h3⟩, h4⟩, h5⟩ := h
      subst h3
      obtain ⟨l1, l2⟩ := g.loc h2
      rcases h4 with rfl | rfl
      · exact PS.imp (ps_aug g.ndX (g.at? h1) l1 ((snd e).e g h5) ip_add l2) fun D σ H q => tS_augA q
      · exact PS.imp (ps_aug g.ndX (g.at? h1) l1 ((snd e).e g h5) ip_sub l2) fun D σ H q => tS_augM q
    · cases h
  | ret e =>
    simp only [chS1] at h
    split at h
    · exact PS.imp (ps_ret ((snd e).e g h)) fun D σ H q => tS_ret q
    · cases h
  | retN =>
    simp only [chS1] at h
    split at h
    · exact PS.imp ps_retN fun D σ H q => tS_retN q
    · cases h
  | pas =>
    simp only [chS1] at h
    split at h
    · exact PS.imp ps_pass fun D σ H q => tS_pas q
    · exact PS.imp ps_doc fun D σ H q => tS_pas q
    · cases h
  | brk =>
    simp only [chS1] at h
    split at h
    · exact PS.imp ps_break fun D σ H q => tS_brk q
    · cases h
  | cnt =>
    simp only [chS1] at h
    split at h
    · exact PS.imp ps_continue fun D σ H q => tS_cnt q
    · cases h
  | nev => exact PS.imp ps_never fun D σ H q => tS_nev q
  | nil => cases h
  | cons _ _ => cases h
  | ite _ _ _ => cases h
  | whl _ _ => cases h
  | for_ _ _ _ => cases h
theorem ps_iteX (g : Gd X k tab T G sc) {cc : PX} {a b : PSt} {t : Expr} {p q : List Stmt} {pos : Pos} (h1 : chE tab cc sc t = true) (h2 : noIte cc = true) (ha : PSs X p (tS T G np X.K a)) (hb : PSs X q (tS T G np X.K b)) : PS X (.If t p q pos) (tS T G np X.K (.ite cc a b)) :=
  PS.imp (ps_if ((snd cc).t g h1 h2) ha hb) fun D σ H q => tS_ite q
theorem ps_whlX (g : Gd X k tab T G sc) (hxe : X.xe = fun _ _ => False) {cc : PX} {b : PSt} {t : Expr} {p : List Stmt} {pos : Pos} (h1 : chE tab cc sc t = true) (h2 : noIte cc = true) (hb : PSs X p (tS T G np X.K b)) : PS X (.While t p [] pos) (tS T G np X.K (.whl cc b)) :=
  PS.imp (ps_while (by rw [hxe]; exact PassesOwn.never) ((snd cc).t g h1 h2) hb) fun D σ H q => tS_whl q
theorem ps_forX (g : Gd X k tab T G sc) (hxe : X.xe = fun _ _ => False) {tg : Tg} {it : PX} {b : PSt} {t i : Expr} {p : List Stmt} {pos : Pos} (h1 : chI tab it sc t i = true) (h2 : notSet i = true) (h3 : tgB tab sc tg t = true) (hb : PSs X p (tS T G np X.K b)) : PS X (.For t i p [] pos) (tS T G np X.K (.for_ tg it b)) :=
  PS.imp (ps_for (by rw [hxe]; exact PassesOwn.never) g.at_.calm ((snd it).i g h1) (tg_ok g h3) hb (foldNo h2)) fun D σ H q => tS_for q
theorem pss_consX {s r : PSt} {st : Stmt} {rest : List Stmt} (h1 : PS X st (tS T G np X.K s)) (h2 : PSs X rest (tS T G np X.K r)) : PSs X (st :: rest) (tS T G np X.K (.cons s r)) := PSs.imp (pss_cons h1 h2) fun D σ H q => tS_cons q
theorem chSs_ok (g : Gd X k tab T G sc) (hxe : X.xe = fun _ _ => False) : ∀ {p : PSt} {l : List Stmt}, chSs tab p sc l = true → PSs X l (tS T G np X.K p)
  | .nil, [], _ => PSs.imp pss_nil fun D σ H q => tS_nil q
  | .nil, _ :: _, h => by simp only [chSs] at h; cases h
  | .nev, l, _ => PSs.imp pss_never fun D σ H q => tS_nev q
  | .cons s r, [], h => by simp only [chSs] at h; cases h
  | .cons (.ite cc a b) r, st :: rest, h => by
    simp only [chSs, Bool.and_eq_true] at h
    obtain ⟨h1, h2⟩ := h
    split at h1
    · simp only [Bool.and_eq_true] at h1
      obtain ⟨⟨⟨k1, k2⟩, k3⟩, k4⟩ := h1
      exact pss_consX (ps_iteX g k1 k2 (chSs_ok g hxe k3) (chSs_ok g hxe k4)) (chSs_ok g hxe h2)
    · cases h1
  | .cons (.whl cc b) r, st :: rest, h => by
    simp only [chSs, Bool.and_eq_true] at h
    obtain ⟨h1, h2⟩ := h
    split at h1
    · simp only [Bool.and_eq_true] at h1
      obtain ⟨⟨k1, k2⟩, k3⟩ := h1
      exact pss_consX (ps_whlX g hxe k1 k2 (chSs_ok g hxe k3)) (chSs_ok g hxe h2)
    · cases h1
  | .cons (.for_ tg it b) r, st :: rest, h => by
    simp only [chSs, Bool.and_eq_true] at h
    obtain ⟨h1, h2⟩ := h
    split at h1
    · simp only [Bool.and_eq_true] at h1
      obtain ⟨⟨⟨k1, k2⟩, k3⟩, k4⟩ := h1
      exact pss_consX (ps_forX g hxe k1 k2 k3 (chSs_ok g hxe k4)) (chSs_ok g hxe h2)
    · cases h1
  | .cons (.exp e) r, st :: rest, h => by
    simp only [chSs, Bool.and_eq_true] at h
    exact pss_consX (chS1_ok g hxe h.1) (chSs_ok g hxe h.2)
  | .cons (.asg t e) r, st :: rest, h => by
    simp only [chSs, Bool.and_eq_true] at h
    exact pss_consX (chS1_ok g hxe h.1) (chSs_ok g hxe h.2)
  | .cons (.par i j a b) r, st :: rest, h => by
    simp only [chSs, Bool.and_eq_true] at h
    exact pss_consX (chS1_ok g hxe h.1) (chSs_ok g hxe h.2)
  | .cons (.par3 i j l a b c) r, st :: rest, h => by
    simp only [chSs, Bool.and_eq_true] at h
    exact pss_consX (chS1_ok g hxe h.1) (chSs_ok g hxe h.2)
  | .cons (.unl is e) r, st :: rest, h => by
    simp only [chSs, Bool.and_eq_true] at h
    exact pss_consX (chS1_ok g hxe h.1) (chSs_ok g hxe h.2)
  | .cons (.asgS a i e) r, st :: rest, h => by
    simp only [chSs, Bool.and_eq_true] at h
    exact pss_consX (chS1_ok g hxe h.1) (chSs_ok g hxe h.2)
  | .cons (.aug i op e) r, st :: rest, h => by
    simp only [chSs, Bool.and_eq_true] at h
    exact pss_consX (chS1_ok g hxe h.1) (chSs_ok g hxe h.2)
  | .cons (.ret e) r, st :: rest, h => by
    simp only [chSs, Bool.and_eq_true] at h
    exact pss_consX (chS1_ok g hxe h.1) (chSs_ok g hxe h.2)
  | .cons .retN r, st :: rest, h => by
    simp only [chSs, Bool.and_eq_true] at h
    exact pss_consX (chS1_ok g hxe h.1) (chSs_ok g hxe h.2)
  | .cons .pas r, st :: rest, h => by
    simp only [chSs, Bool.and_eq_true] at h
    exact pss_consX (chS1_ok g hxe h.1) (chSs_ok g hxe h.2)
  | .cons .brk r, st :: rest, h => by
    simp only [chSs, Bool.and_eq_true] at h
    exact pss_consX (chS1_ok g hxe h.1) (chSs_ok g hxe h.2)
  | .cons .cnt r, st :: rest, h => by
    simp only [chSs, Bool.and_eq_true] at h
    exact pss_consX (chS1_ok g hxe h.1) (chSs_ok g hxe h.2)
  | .cons .nev r, st :: rest, h => by
    simp only [chSs, Bool.and_eq_true] at h
    exact pss_consX (chS1_ok g hxe h.1) (chSs_ok g hxe h.2)
  | .cons .nil r, st :: rest, h => by
    simp only [chSs, chS1, Bool.and_eq_true] at h
    cases h.1
  | .cons (.cons _ _) r, st :: rest, h => by
    simp only [chSs, chS1, Bool.and_eq_true] at h
    cases h.1
end
/-- THE RULE for a def: its row against its term -/
theorem fnG_of {P : Program} {w : World} {K : W.Frag} {mg : Str → Option Value} {base : Heap} {k np nl : Nat} {f : Addr} {x qual : Str} {st : Stmt} {fd : FuncData} {tab : Tab} {T : List FnS} {G : List D} {ps : List Str} {body : PSt} (fn : Fun K x qual st f fd)
    (S : FnScope tab.N ps (defScope st)) (fx : Fx P w K mg base k tab T G) (hn : tab.N.length = np + nl) (hp : ps.length = np)
    (hc : chSs tab body ⟨(defScope st).names, (defScope st).names⟩ (defBody st) = true) : FnG P w K mg base (k + 1) f fd ps (wpF T G np nl body) :=
  fn_ofG fn S (fun ds kk x h => by rw [hp]; exact h.1.1) fun cdv A outer s H vs Q hat hsp => by
    have g : Gd (cxOf CX0 P w K mg base tab.N qual (defScope st) f cdv A outer s H E0).nox k tab T G ⟨(defScope st).names, (defScope st).names⟩ :=
      ⟨hat, rfl, S.nd, rfl, S.kind, fun _ _ => rfl, fx⟩
    exact ⟨_, chSs_ok (np := np) g rfl hc, wpF_start hn hsp⟩
end MP

set_option Elab.async false
set_option linter.all false
set_option maxRecDepth 100000
set_option maxHeartbeats 1000000
/-! The end of a law. -/
namespace MP
open PySem PySem.Spec PyProof.Rows L2

def scriptD (ns : List Int) : D := .fl (ns.map D.int)
theorem own_ints {K : W.Frag} {Z : Addr → Prop} {H : Hp} : ∀ {ns : List Int}, Own K Z H (ns.map V.int) (ns.map D.int) fun _ => 0
  | [] => .nil
  | _ :: _ => .int own_ints
/-- the script alone is tracked, unless the module holds it -/
def heapS (K : W.Frag) (a : Addr) (vs : List Value) (ns : List Int) : Hp := fun b =>
  if b = a ∧ K.lookup a = none then some (.frz { cls := .type "list", data := .seq vs.toArray } (.lst (ns.map V.int))) else none
theorem heapS_at {K : W.Frag} {a b : Addr} {vs : List Value} {ns : List Int} {u : HO} (h : heapS K a vs ns b = some u) : b = a ∧ K.lookup a = none ∧ u = .frz { cls := .type "list", data := .seq vs.toArray } (.lst (ns.map V.int)) := by
  unfold heapS at h
  split at h
  · rename_i q
    exact ⟨q.1, q.2, (Option.some.inj h).symm⟩
  · cases h
theorem lawG {P : Program} {w : World} {K : W.Frag} {mg mb : Str → Option Value} {k : Nat} {fa a : Addr} {fd : FuncData} {x : Str} {F : FnS} {s₁ : Shared} {vs : List Value} {ns : List Int}
    (inK : K.In s₁.heap) (gl : s₁.heap.Ns mainGlobals mg) (bl : s₁.heap.Ns builtinsNs mb) (blt : ∀ y : Str, y ≠ "__name__" → mb y = bootBuiltins y) (nl : s₁.heap.NoLimit) (ge : s₁.gens = #[])
    (sc : s₁.heap.get? a = some { cls := .type "list", data := .seq vs.toArray }) (ia : IntsAre vs ns) (le : ns.length ≤ sizeLine) (rm : Room k callerA)
    (pr : ∀ base : Heap, K.In base → base.Ns mainGlobals mg → FnG P w K mg base k fa fd [x] F) (bd : ∀ (s : Shared) (u : Value), BindsTo s fd ⟨[u], []⟩ [(x, u)])
    (wp : F [scriptD ns] (fun d _ => d = .bl true) noX) :
    codeAny (model P w) callerA (.call (.ref fa) ⟨[.ref a], []⟩) (fun r s' => r = .ok (.ret (.bool true)) ∧ OldK s₁.heap s'.heap ∧ s'.os = s₁.os ∧ AllBare s'.gens) s₁ := by
  have vals := vals_ints ia
  have cnt := ia.length
  generalize hH : heapS K a vs ns = H
  have only : ∀ {b : Addr} {u : HO}, H b = some u → b = a ∧ K.lookup a = none ∧ u = .frz { cls := .type "list", data := .seq vs.toArray } (.lst (ns.map V.int)) := fun {b u} e => heapS_at (by rw [hH]; exact e)
  have free : ∀ {b : Addr}, (b = a → K.lookup a ≠ none) → H b = none := fun {b} n => by
    cases q : H b with
    | none => rfl
    | some u => exact absurd (only q).2.1 (n (only q).1)
  have stays : ∀ {b : Addr} {m : Str → Option Value}, s₁.heap.Ns b m → (hidT s₁.heap H).Ns b m := by
    rintro b m ⟨o, es, ep, e, d, r⟩
    refine ⟨o, es, ep, hidT_get e (free fun z => ?_), d, r⟩
    subst z
    rw [sc] at e
    cases e
    cases (show Data.seq vs.toArray _ = Data.dict es ep from d)
  have inH : K.In (hidT s₁.heap H) := fun b o e => hidT_get (inK b o e) (free fun z n => by
    subst z
    rw [n] at e
    cases e)
  have md : Mod K mg (hidT s₁.heap H) := by
    obtain ⟨mc, h1, h2⟩ := nl
    exact ⟨inH, stays gl, ⟨mb, stays bl, blt⟩, mc, stays h1, h2⟩
  have ok : HOk P w H s₁.heap := fun b u e => by
    obtain ⟨rfl, _, rfl⟩ := only e
    exact ⟨sc, by rw [List.length_map]; exact le, vs, _, vals, sc⟩
  have env : Env0 P w K mg (hidT s₁.heap H) callerA [] s₁ H :=
    ⟨rfl, md, fun b o e => of_hidT e, Nat.le_of_eq (hidT_size _ _), trivial, fun b z => absurd (show b ∈ ([] : List Addr) from z) List.not_mem_nil, ok, .of_eq ge⟩
  have frz : FzL K (fun _ => False) H a (ns.map V.int) := by
    cases q : K.lookup a with
    | none => exact .inr (.inl ⟨_, by rw [← hH]; unfold heapS; rw [if_pos ⟨rfl, q⟩]⟩)
    | some o =>
      have e := inK a o q
      rw [sc] at e
      cases e
      exact .inr (.inr ⟨_, vs.toArray, _, q, rfl, rfl, rfl, by rw [List.size_toArray, cnt]; exact le, by simpa using vals⟩)
  have start : spOf K F [.ref a] H fun v _ => v = .bl true := by
    refine ⟨fun _ => False, [scriptD ns], fun _ => 0, fun d _ => d = .bl true, ⟨.fl frz own_ints .nil, fun _ => Nat.zero_le _, fun b z => absurd z (Nat.lt_irrefl 0), fun b z => z.elim, fun b o e _ => e, fun b _ z => z, fun b e => e, fun b z => .inl z, fun b z => z⟩, wp, ?_⟩
    rintro d outs v H' Z' c' rfl R
    obtain ⟨c1, c2, o, _, _⟩ := R.own.uncons
    cases o
    rfl
  refine codeAny_mono ((pr _ inH (stays gl)).run callerA [] s₁ H ⟨[.ref a], []⟩ [.ref a] [.ref a] (fun v _ => v = .bl true) rfl rm env (bd s₁ (.ref a)) (.cons rfl .nil) start) fun r s' q => ?_
  match r, q with
  | .ok (.ret u), ⟨v, H', e1, e2, un, ok', rv, (e3 : v = .bl true)⟩ =>
    subst e3
    have e4 : u = Value.bool true := rv
    subst e4
    refine ⟨rfl, .of_keep fun b o e => ?_, e1, e2⟩
    cases q : H b with
    | none => exact un.keep b o e q (fun z => absurd (show b ∈ ([] : List Addr) from z) List.not_mem_nil) (by simp)
    | some u =>
      obtain ⟨rfl, _, rfl⟩ := only q
      obtain ⟨e5, _⟩ := ok' _ _ (un.frzs _ _ _ q)
      rw [sc] at e
      cases e
      exact e5
/-- what a law's end asks for: its def's promise, and the plain law -/
theorem endG {l : W.OpenLaw} {n k : Nat} {q : Program} {loose : List Str} {XP : (Str → Option Value) → Heap → Prop} {YP : World → Heap → Prop} {d : DefRec} {K : Params → W.Frag} {x : Str}
    (most : l.most = some n) (few : n ≤ sizeLine) (nodf : d.params.defaults = []) (rm : Room k callerA) (kin : ∀ (w : World) (h : Heap), YP w h → (K w.params).In h)
    (F : ∀ (w : World) (mg : Str → Option Value) (fa : Addr) (h : Heap), (K w.params).In h → h.Ns mainGlobals mg → mg d.name = some (.ref fa) → ∃ (fd : FuncData) (F : FnS), (∀ (s : Shared) (u : Value), BindsTo s fd ⟨[u], []⟩ [(x, u)]) ∧
      (∀ base : Heap, (K w.params).In base → base.Ns mainGlobals mg → FnG l.prog w (K w.params) mg base k fa fd [x] F) ∧ ∀ ns : List Int, ns.length ≤ n → F [scriptD ns] (fun d _ => d = .bl true) noX) :
    W.WalkO q loose XP YP l.row.toRowW d [] (fun f vs => PySem.call f vs) := by
  refine Att.attach_callB most nodf fun w s₀ s₁ mg mb fa o pm cd doc a vs ns G Y ho hd hcd hmg sc ia len bits ge => ?_
  obtain ⟨fd, F, bd, pr, wp⟩ := F w mg fa s₁.heap (kin w _ Y) G.T.g hmg
  exact lawG (kin w _ Y) G.T.g G.T.b G.T.builtins G.T.nolimit ge sc ia (Nat.le_trans len few) rm pr bd (wp ns len)
end MP

set_option Elab.async false
set_option linter.all false
set_option maxRecDepth 100000
set_option maxHeartbeats 1000000
/-! The table of a law's defs, one after another. -/
namespace MP
open PySem PySem.Spec PyProof.Rows L2

/-- a def that may be called -/
structure FnE (P : Program) (w : World) (K : W.Frag) (mg : Str → Option Value) (base : Heap) (k : Nat) (x : Str) (F : FnS) (kws : List (List Str × List Nat)) : Prop where
  ex : ∃ f fd ps, FnG P w K mg base k f fd ps F ∧ mg x = some (.ref f) ∧ W.keepIn K (.ref f) = true ∧ Binds K fd ps [] ∧ ∀ q ∈ kws, KwB K fd ps q.1 q.2
section
variable {P : Program} {w : World} {K : W.Frag} {mg : Str → Option Value} {base : Heap} {k : Nat} {N : List Str} {fns glos : List Str} {kws : List (Nat × List Str × List Nat)} {T : List FnS} {G : List D}
theorem Fx.up {k' : Nat} {N' : List Str} (h : Fx P w K mg base k ⟨N, fns, glos, kws⟩ T G) (hk : k ≤ k') : Fx P w K mg base k' ⟨N', fns, glos, kws⟩ T G where
  fns := fun i x e => by
    obtain ⟨f, fd, ps, F, h1, h2, h3, h4, h5, h6⟩ := h.fns i x e
    exact ⟨f, fd, ps, F, h1, h2.mono hk, h3, h4, h5, h6⟩
  glos := h.glos
  blt := h.blt
theorem Fx.snoc {x : Str} {F : FnS} {kw : List (List Str × List Nat)} (h : Fx P w K mg base k ⟨N, fns, glos, kws⟩ T G) (e : FnE P w K mg base k x F kw) (hl : fns.length = T.length) (hk : (kws.all fun q => decide (q.1 < fns.length)) = true) :
    Fx P w K mg base k ⟨N, fns ++ [x], glos, kws ++ kw.map fun q => (fns.length, q.1, q.2)⟩ (T ++ [F]) G where
  fns := fun i y hy => by
    rw [List.all_eq_true] at hk
    by_cases hi : i < fns.length
    · rw [List.getElem?_append_left hi] at hy
      obtain ⟨f, fd, ps, F', h1, h2, h3, h4, h5, h6⟩ := h.fns i y hy
      refine ⟨f, fd, ps, F', by rw [List.getElem?_append_left (by omega)]; exact h1, h2, h3, h4, h5, fun ks perm hq => h6 ks perm ?_⟩
      unfold kwB at hq ⊢
      rw [List.any_append, Bool.or_eq_true] at hq
      rcases hq with hq | hq
      · exact hq
      · rw [List.any_eq_true] at hq
        obtain ⟨q, hm, hb⟩ := hq
        obtain ⟨q0, _, rfl⟩ := List.mem_map.mp hm
        simp only [Bool.and_eq_true, beq_iff_eq] at hb
        omega
    · rw [List.getElem?_append_right (by omega)] at hy
      have hi2 : i = fns.length := by
        have := (List.getElem?_eq_some_iff.mp hy).1
        simp at this; omega
      subst hi2
      have hy : x = y := by simpa using hy
      subst hy
      obtain ⟨f, fd, ps, h2, h3, h4, h5, h6⟩ := e.ex
      refine ⟨f, fd, ps, F, by rw [hl, List.getElem?_append_right (Nat.le_refl _)]; simp, h2, h3, h4, h5, fun ks perm hq => ?_⟩
      unfold kwB at hq
      rw [List.any_append, Bool.or_eq_true] at hq
      rcases hq with hq | hq
      · rw [List.any_eq_true] at hq
        obtain ⟨q, hm, hb⟩ := hq
        have := hk q hm
        simp only [Bool.and_eq_true, beq_iff_eq, decide_eq_true_eq] at hb this
        omega
      · rw [List.any_eq_true] at hq
        obtain ⟨q, hm, hb⟩ := hq
        obtain ⟨q0, hm0, rfl⟩ := List.mem_map.mp hm
        simp only [Bool.and_eq_true, decide_eq_true_eq] at hb
        obtain ⟨⟨_, b1⟩, b2⟩ := hb
        rw [← b1, ← b2]
        exact h6 q0 hm0
  glos := h.glos
  blt := h.blt
theorem Fx.nil (hb : ∀ x ∈ bltNames, mg x = none) (hg : ∀ (j : Nat) (x : Str), glos[j]? = some x → ∃ d v u, G[j]? = some d ∧ (∀ Z H, Own K Z H [v] [d] fun _ => 0) ∧ mg x = some u ∧ RelV v u) : Fx P w K mg base k ⟨N, [], glos, []⟩ [] G where
  fns := fun i x e => by simp at e
  glos := hg
  blt := hb
/-- ints among the module's constants -/
theorem glo_cons {x : Str} {v : V} {d : D} {u : Value} (hm : mg x = some u) (r : RelV v u) (o : ∀ Z H, Own K Z H [v] [d] fun _ => 0)
    (h : ∀ (j : Nat) (y : Str), glos[j]? = some y → ∃ d v u, G[j]? = some d ∧ (∀ Z H, Own K Z H [v] [d] fun _ => 0) ∧ mg y = some u ∧ RelV v u) :
    ∀ (j : Nat) (y : Str), (x :: glos)[j]? = some y → ∃ d' v u, (d :: G)[j]? = some d' ∧ (∀ Z H, Own K Z H [v] [d'] fun _ => 0) ∧ mg y = some u ∧ RelV v u := fun j y e => by
  cases j with
  | zero =>
    have e : x = y := by simpa using e
    subst e
    exact ⟨d, v, u, rfl, o, hm, r⟩
  | succ j => exact h j y (by simpa using e)
theorem glo_nil : ∀ (j : Nat) (y : Str), ([] : List Str)[j]? = some y → ∃ d v u, ([] : List D)[j]? = some d ∧ (∀ Z H, Own K Z H [v] [d] fun _ => 0) ∧ mg y = some u ∧ RelV v u := fun j y e => by simp at e
theorem kwb_of {x qual : Str} {st : Stmt} {f : Addr} {fd : FuncData} {ps ks : List Str} {perm : List Nat} (F : Fun K x qual st f fd)
    (h : ∀ (kV doc pm : Value) (an : Option Addr) (cdv ct : Value) (ws zs : List Value), ws.length = ks.length → permD ws perm = some zs → bindArgs (W.fnOf x qual (defArgs st) (defBody st) (defScope st) .none kV doc pm an cdv ct) ⟨[], ks.zip ws⟩ = pure (ps.zip zs)) : KwB K fd ps ks perm := by
  obtain ⟨oc, od, kV, doc, pm, an, cdv, ct, osl, rfl, lk, hcd⟩ := F.ex
  exact ⟨fun s ws zs _ l e => .of_eq (h kV doc pm an cdv ct ws zs l e)⟩
/-! ### a def that calls itself -/
def never : FnS := fun _ _ _ => False
/-- with so many calls of itself one within another -/
def recF (T : List FnS) (G : List D) (np nl : Nat) (B : PSt) : Nat → FnS
  | 0 => never
  | n + 1 => wpF (T ++ [recF T G np nl B n]) G np nl B
theorem fnG_never {f : Addr} {fd : FuncData} {ps : List Str} : FnG P w K mg base k f fd ps never :=
  ⟨fun _ _ _ h => h.elim, fun A outer s H args us vs Q _ _ _ _ _ h => by
    obtain ⟨Z, ds, c, kk, R, f, _⟩ := h
    exact f.elim⟩
theorem rec_ok {np nl : Nat} {f : Addr} {x qual : Str} {st : Stmt} {fd : FuncData} {ps : List Str} {B : PSt} {kw : List (List Str × List Nat)} (fn : Fun K x qual st f fd) (S : FnScope N ps (defScope st))
    (fx : Fx P w K mg base k ⟨N, fns, glos, kws⟩ T G) (hn : N.length = np + nl) (hp : ps.length = np) (hl : fns.length = T.length) (hk : (kws.all fun q => decide (q.1 < fns.length)) = true)
    (hc : chSs ⟨N, fns ++ [x], glos, kws ++ kw.map fun q => (fns.length, q.1, q.2)⟩ B ⟨(defScope st).names, (defScope st).names⟩ (defBody st) = true)
    (hm : mg x = some (.ref f)) (hi : W.keepIn K (.ref f) = true) (hb : Binds K fd ps []) (hkw : ∀ q ∈ kw, KwB K fd ps q.1 q.2) : ∀ n, FnG P w K mg base (k + n) f fd ps (recF T G np nl B n)
  | 0 => fnG_never
  | n + 1 => fnG_of (tab := ⟨N, fns ++ [x], glos, kws ++ kw.map fun q => (fns.length, q.1, q.2)⟩) fn S
    (Fx.snoc (Fx.up (N' := N) fx (Nat.le_add_right _ _)) ⟨f, fd, ps, rec_ok fn S fx hn hp hl hk hc hm hi hb hkw n, hm, hi, hb, hkw⟩ hl hk) hn hp hc
end
end MP

set_option Elab.async false
set_option linter.all false
set_option maxRecDepth 100000
set_option maxHeartbeats 1000000
/-! Plain reasoning: loops, comparisons, texts. -/
namespace MP
open PySem PySem.Spec PyProof.Rows L2

theorem forL_of {st : List D → Prop} {step : D → List D → (List D → Prop) → Prop} {k : List D → Prop} (I : Nat → List D → Prop) {ds : List D} {σ : List D} (h0 : I 0 σ) (hs : ∀ i σ, I i σ → st σ)
    (ht : ∀ i d σ (k2 : List D → Prop), ds[i]? = some d → I i σ → (∀ σ', I (i + 1) σ' → k2 σ') → step d σ k2) (he : ∀ σ, I ds.length σ → k σ) : forL st step ds σ k := by
  have go : ∀ (l : List D) (n : Nat) (σ : List D), ds.drop n = l → n + l.length = ds.length → I n σ → forL st step l σ k := by
    intro l
    induction l with
    | nil =>
      intro n σ e hl hi
      have : n = ds.length := by simpa using hl
      subst this
      exact ⟨hs _ _ hi, he _ hi⟩
    | cons d l ih =>
      intro n σ e hl hi
      have hd : ds[n]? = some d := by
        have : (ds.drop n)[0]? = some d := by rw [e]; rfl
        rw [List.getElem?_drop] at this
        simpa using this
      have e2 : ds.drop (n + 1) = l := by
        have : (ds.drop n).drop 1 = l := by rw [e]; rfl
        rw [List.drop_drop] at this
        exact this
      exact ⟨hs _ _ hi, ht n d σ _ hd hi fun σ' h' => ih (n + 1) σ' e2 (by simp at hl; omega) h'⟩
  exact go ds 0 σ rfl (by simp) h0
theorem forC_of {st : List D → Prop} {step : D → List D → (Option D → List D → Prop) → Prop} {k : List D → List D → Prop} (I : Nat → List D → List D → Prop) {ds acc : List D} {σ : List D} (h0 : I 0 acc σ) (hs : ∀ i acc σ, I i acc σ → st σ)
    (ht : ∀ i d acc σ (k2 : Option D → List D → Prop), ds[i]? = some d → I i acc σ → (∀ y σ', I (i + 1) (acc ++ [y]) σ' → k2 (some y) σ') → (∀ σ', I (i + 1) acc σ' → k2 none σ') → step d σ k2) (hb : ∀ i acc σ, i < ds.length → I i acc σ → acc.length < big) (he : ∀ acc σ, I ds.length acc σ → k acc σ) : forC st step ds acc σ k := by
  have go : ∀ (l : List D) (n : Nat) (acc : List D) (σ : List D), ds.drop n = l → n + l.length = ds.length → I n acc σ → forC st step l acc σ k := by
    intro l
    induction l with
    | nil =>
      intro n acc σ e hl hi
      have : n = ds.length := by simpa using hl
      subst this
      exact ⟨hs _ _ _ hi, he _ _ hi⟩
    | cons d l ih =>
      intro n acc σ e hl hi
      have hd : ds[n]? = some d := by
        have : (ds.drop n)[0]? = some d := by rw [e]; rfl
        rw [List.getElem?_drop] at this
        simpa using this
      have e2 : ds.drop (n + 1) = l := by
        have : (ds.drop n).drop 1 = l := by rw [e]; rfl
        rw [List.drop_drop] at this
        exact this
      have l2 : n + 1 + l.length = ds.length := by simp at hl; omega
      refine ⟨hs _ _ _ hi, ht n d acc σ _ hd hi (fun y σ' h' => ?_) fun σ' h' => ?_⟩
      · exact ⟨hb n acc σ (by omega) hi, ih (n + 1) _ σ' e2 l2 h'⟩
      · exact ih (n + 1) _ σ' e2 l2 h'
  exact go ds 0 acc σ rfl (by simp) h0
/-- nothing changes but what is collected -/
theorem forC_map {st : List D → Prop} {step : D → List D → (Option D → List D → Prop) → Prop} {k : List D → List D → Prop} (g : D → Option D) {ds : List D} {σ : List D} (hs : st σ) (hl : ds.length ≤ big)
    (ht : ∀ d (k2 : Option D → List D → Prop), d ∈ ds → k2 (g d) σ → step d σ k2) (he : k (ds.filterMap g) σ) : forC st step ds [] σ k := by
  refine forC_of (fun i acc σ' => σ' = σ ∧ acc = (ds.take i).filterMap g) ⟨rfl, by simp⟩ (fun i acc σ' h => by rw [h.1]; exact hs) (fun i d acc σ' k2 hd h h1 h2 => ?_) (fun i acc σ' hi h => ?_) fun acc σ' h => ?_
  · obtain ⟨rfl, rfl⟩ := h
    have e : (ds.take (i + 1)).filterMap g = (ds.take i).filterMap g ++ (g d).toList := by
      rw [List.take_succ, hd, List.filterMap_append]
      cases q : g d <;> simp [q]
    refine ht d k2 (List.mem_of_getElem? hd) ?_
    cases q : g d with
    | none => exact h2 _ ⟨rfl, by rw [e, q]; simp⟩
    | some y => exact h1 y _ ⟨rfl, by rw [e, q]; rfl⟩
  · obtain ⟨_, rfl⟩ := h
    refine Nat.lt_of_le_of_lt (List.length_filterMap_le _ _) ?_
    rw [List.length_take]
    omega
  · obtain ⟨rfl, rfl⟩ := h
    rw [List.take_length]
    exact he
/-! ### lists of ints, of tuples of ints -/
def intsD (ns : List Int) : List D := ns.map D.int
theorem imAll_ints : ∀ {ns : List Int}, imAll (intsD ns) = true
  | [] => rfl
  | n :: ns => by
    show (true && imAll (intsD ns)) = true
    rw [imAll_ints]; rfl
theorem pyAll_ints : ∀ {ns : List Int}, pyAll (intsD ns) = some (ns.map PyData.int)
  | [] => rfl
  | n :: ns => by
    show ((py (.int n)).bind fun y => (pyAll (intsD ns)).map (y :: ·)) = _
    rw [pyAll_ints]; rfl
theorem canLay_ints : ∀ {ns : List Int}, PyData.canLayAll0 (ns.map PyData.int) = true
  | [] => rfl
  | n :: ns => by
    show (PyData.canLay0 (.int n) && PyData.canLayAll0 (ns.map PyData.int)) = true
    rw [canLay_ints]; rfl
theorem depth_ints : ∀ {ns : List Int}, PyData.depthAll (ns.map PyData.int) = 0
  | [] => rfl
  | n :: ns => by
    show max (PyData.depth (.int n)) (PyData.depthAll (ns.map PyData.int)) = 0
    rw [depth_ints]; rfl
theorem shaped_ints {ns : List Int} : SeqAt.shaped (.list (ns.map PyData.int)) = true := by
  unfold SeqAt.shaped PyData.canLay0 PyData.depth
  rw [canLay_ints, depth_ints]; rfl
theorem eqv_nil {xs : List PyData} : PyData.eqv (.list xs) (.list []) = xs.isEmpty := by
  cases xs <;> simp [PyData.eqv, PyData.eqvAll]
/-- a list of ints against the empty list -/
theorem eq_nil_ints {f : Bool → D} {ns : List Int} {k : KD} (h : k (f ns.isEmpty)) : eqS f (.lst (intsD ns)) (.lst []) k := by
  refine ⟨.list (ns.map PyData.int), .list [], ?_, rfl, shaped_ints, rfl, ?_⟩
  · show (pyAll (intsD ns)).map PyData.list = _
    rw [pyAll_ints]; rfl
  · rw [eqv_nil]
    cases ns <;> exact h
theorem py_ints {ns : List Int} : py (.lst (intsD ns)) = some (.list (ns.map PyData.int)) := by
  show (pyAll (intsD ns)).map PyData.list = _
  rw [pyAll_ints]; rfl
def tupI (ns : List Int) : D := .tup (intsD ns)
theorem py_tupI {ns : List Int} : py (tupI ns) = some (.tuple (ns.map PyData.int)) := by
  show (pyAll (intsD ns)).map PyData.tuple = _
  rw [pyAll_ints]; rfl
theorem pyAll_tups : ∀ {vs : List (List Int)}, pyAll (vs.map tupI) = some (vs.map fun v => .tuple (v.map PyData.int))
  | [] => rfl
  | v :: vs => by
    show ((py (tupI v)).bind fun y => (pyAll (vs.map tupI)).map (y :: ·)) = _
    rw [pyAll_tups, py_tupI]; rfl
theorem py_tups {vs : List (List Int)} : py (.lst (vs.map tupI)) = some (.list (vs.map fun v => .tuple (v.map PyData.int))) := by
  show (pyAll (vs.map tupI)).map PyData.list = _
  rw [pyAll_tups]; rfl
theorem shaped_tups {vs : List (List Int)} : SeqAt.shaped (.list (vs.map fun v => .tuple (v.map PyData.int))) = true := by
  have h1 : PyData.canLayAll0 (vs.map fun v => .tuple (v.map PyData.int)) = true := by
    induction vs with
    | nil => rfl
    | cons v vs ih =>
      show (PyData.canLay0 (.tuple (v.map PyData.int)) && PyData.canLayAll0 _) = true
      rw [ih]
      simp only [PyData.canLay0, canLay_ints]; rfl
  have h2 : PyData.depthAll (vs.map fun v => .tuple (v.map PyData.int)) ≤ 1 := by
    induction vs with
    | nil => exact Nat.zero_le _
    | cons v vs ih =>
      have ih := ih (by
        simp only [List.map_cons, PyData.canLayAll0, Bool.and_eq_true] at h1
        exact h1.2)
      show max (PyData.depth (.tuple (v.map PyData.int))) (PyData.depthAll _) ≤ 1
      simp only [PyData.depth, depth_ints]
      omega
  unfold SeqAt.shaped PyData.canLay0 PyData.depth
  rw [h1]
  simp only [Bool.true_and, decide_eq_true_eq]
  omega
theorem eq_nil_tups {f : Bool → D} {vs : List (List Int)} {k : KD} (h : k (f vs.isEmpty)) : eqS f (.lst (vs.map tupI)) (.lst []) k := by
  refine ⟨.list (vs.map fun v => .tuple (v.map PyData.int)), .list [], ?_, rfl, shaped_tups, rfl, ?_⟩
  · show (pyAll (vs.map tupI)).map PyData.list = _
    rw [pyAll_tups]; rfl
  · rw [eqv_nil]
    cases vs <;> exact h
theorem ints_some : ∀ {ns : List Int}, ints? (intsD ns) = some ns
  | [] => rfl
  | n :: ns => by
    show (ints? (intsD ns)).map (n :: ·) = _
    rw [ints_some]; rfl
/-! ### texts of tuples of ints -/
def small (i : Int) : Prop := -999999999999 ≤ i ∧ i ≤ 999999999999
theorem small_shown {i : Int} (h : small i) : (PyData.shown (.int i)).length ≤ 13 := PyData.shown_int_le2 (by unfold small at h; omega) (by unfold small at h; omega)
theorem small_log {i : Int} (h : small i) : i.natAbs.log2 < 64 := by
  by_cases hz : i.natAbs = 0
  · rw [hz]; decide
  · refine (Nat.log2_lt hz).mpr ?_
    unfold small at h
    omega
theorem small_weight {i : Int} (h : small i) : PyData.weight (.int i) ≤ 64 := by
  unfold PyData.weight
  have := small_log h
  split <;> omega
theorem small_all : ∀ {ns : List Int}, (∀ n ∈ ns, small n) → PyData.leavesShortAll 13 (ns.map PyData.int) = true ∧ PyData.weightAll (ns.map PyData.int) ≤ 65 * ns.length ∧ PyData.showableAll (ns.map PyData.int) = true
  | [], _ => ⟨rfl, Nat.le_refl _, rfl⟩
  | n :: ns, h => by
    obtain ⟨h1, h2, h3⟩ := small_all (ns := ns) fun m hm => h m (List.mem_cons_of_mem _ hm)
    have hn := h n List.mem_cons_self
    refine ⟨?_, ?_, ?_⟩
    · show (PyData.leavesShort 13 (.int n) && PyData.leavesShortAll 13 (ns.map PyData.int)) = true
      rw [h1]
      unfold PyData.leavesShort
      rw [decide_eq_true (small_shown hn)]; rfl
    · show PyData.weight (.int n) + 1 + PyData.weightAll (ns.map PyData.int) ≤ _
      have := small_weight hn
      simp only [List.length_cons]
      omega
    · show (PyData.showable (.int n) && PyData.showableAll (ns.map PyData.int)) = true
      rw [h3]
      unfold PyData.showable
      have := small_log hn
      rw [decide_eq_true (by omega : n.natAbs.log2 < 1920)]; rfl
def shT (ns : List Int) : Str := PyData.shown (.tuple (ns.map PyData.int))
theorem repr_tup {ns : List Int} {k : KD} (h : ∀ n ∈ ns, small n) (hl : ns.length ≤ 1000) (hk : k (.str (shT ns))) : biS .repr [tupI ns] k := by
  obtain ⟨h1, h2, h3⟩ := small_all h
  refine ⟨_, py_tupI, ?_, ?_, ?_, hk⟩
  · unfold PyData.showable
    exact h3
  · unfold PyData.depth
    rw [depth_ints]
    decide
  · have := PyData.shown_le 13 (by decide) (.tuple (ns.map PyData.int)) (by unfold PyData.leavesShort; exact h1)
    have e : PyData.weight (.tuple (ns.map PyData.int)) = PyData.weightAll (ns.map PyData.int) := by unfold PyData.weight; rfl
    rw [e] at this
    have eb : big = 16777216 := rfl
    omega
/-! ### tuples of ints in order -/
theorem lt_tup {xs ys : List Int} {k : KD} (h : k (.bl (HT.lexLt xs ys))) : ltS (tupI xs) (tupI ys) k := ⟨xs, ys, ints_some, ints_some, h⟩
/-! ### lists of data against [] -/
def lay (d : D) : Prop := ∃ p, py d = some p ∧ PyData.canLay0 p = true ∧ PyData.depth p ≤ 60
theorem lay_all : ∀ {ds : List D}, (∀ d ∈ ds, lay d) → ∃ xs, pyAll ds = some xs ∧ PyData.canLayAll0 xs = true ∧ PyData.depthAll xs ≤ 60 ∧ xs.isEmpty = ds.isEmpty
  | [], _ => ⟨[], rfl, rfl, Nat.zero_le _, rfl⟩
  | d :: ds, h => by
    obtain ⟨p, e1, c1, d1⟩ := h d List.mem_cons_self
    obtain ⟨xs, e2, c2, d2, _⟩ := lay_all (ds := ds) fun x hx => h x (List.mem_cons_of_mem _ hx)
    refine ⟨p :: xs, ?_, ?_, ?_, rfl⟩
    · show ((py d).bind fun y => (pyAll ds).map (y :: ·)) = _
      rw [e1, e2]; rfl
    · show (PyData.canLay0 p && PyData.canLayAll0 xs) = true
      rw [c1, c2]; rfl
    · show max (PyData.depth p) (PyData.depthAll xs) ≤ 60
      omega
theorem lay_list {ds : List D} (h : ∀ d ∈ ds, lay d) : ∃ xs, py (.lst ds) = some (.list xs) ∧ SeqAt.shaped (.list xs) = true ∧ PyData.eqv (.list xs) (.list []) = ds.isEmpty := by
  obtain ⟨xs, e1, c1, d1, e2⟩ := lay_all h
  refine ⟨xs, ?_, ?_, ?_⟩
  · show (pyAll ds).map PyData.list = _
    rw [e1]; rfl
  · unfold SeqAt.shaped PyData.canLay0 PyData.depth
    rw [c1]
    simp only [Bool.true_and, decide_eq_true_eq]
    omega
  · rw [eqv_nil, e2]
theorem lay_int {i : Int} : lay (.int i) := ⟨.int i, rfl, rfl, Nat.zero_le _⟩
theorem lay_tupI {ns : List Int} : lay (tupI ns) := ⟨_, py_tupI, by unfold PyData.canLay0; exact canLay_ints, by unfold PyData.depth; rw [depth_ints]; decide⟩
end MP

set_option Elab.async false
set_option linter.all false
set_option maxRecDepth 100000
set_option maxHeartbeats 1000000
/-! Ranges by their ascending borders: plain lists of ints. -/
namespace MP
open PySem PySem.Spec PyProof.Rows L2

abbrev VL := List Int
abbrev lx (a b : VL) : Bool := HT.lexLt a b
def Asc (bs : List VL) : Prop := bs.Pairwise fun p q => lx p q = true
theorem lx_asymm {a b : VL} (h : lx a b = true) : lx b a = false := by
  cases e : lx b a with
  | false => rfl
  | true =>
    have := lexLt_trans h e
    rw [lexLt_irr] at this; cases this
/-- a ≤ b < c -/
theorem lx_le_lt {a b c : VL} (h1 : lx b a = false) (h2 : lx b c = true) : lx a c = true := by
  cases e : lx a b with
  | true => exact lexLt_trans e h2
  | false => rw [lexLt_tri e h1]; exact h2
/-- a < b ≤ c -/
theorem lx_lt_le {a b c : VL} (h1 : lx a b = true) (h2 : lx c b = false) : lx a c = true := by
  cases e : lx b c with
  | true => exact lexLt_trans h1 e
  | false => rw [← lexLt_tri e h2]; exact h1
/-- a ≤ b ≤ c -/
theorem lx_le_le {a b c : VL} (h1 : lx b a = false) (h2 : lx c b = false) : lx c a = false := by
  cases e : lx c a with
  | false => rfl
  | true => rw [lx_lt_le e h1] at h2; cases h2
/-- in the range with these borders -/
def inR : List VL → VL → Bool
  | [], _ => false
  | b :: r, v => !lx v b && !inR r v
theorem inR_cons {b : VL} {r : List VL} {v : VL} : inR (b :: r) v = (!lx v b && !inR r v) := rfl
theorem inR_gt {a : List VL} {v : VL} (h : ∀ x ∈ a, lx v x = true) : inR a v = false := by
  cases a with
  | nil => rfl
  | cons b r => unfold inR; rw [h b List.mem_cons_self]; rfl
theorem inR_same : ∀ {a : List VL} {v w : VL}, (∀ x ∈ a, lx v x = lx w x) → inR a v = inR a w
  | [], _, _, _ => rfl
  | b :: r, v, w, h => by
    unfold inR
    rw [h b List.mem_cons_self, inR_same (a := r) fun x hx => h x (List.mem_cons_of_mem _ hx)]
theorem rg_ext : ∀ {a b : List VL}, Asc a → Asc b → (∀ v, v ∈ a ∨ v ∈ b → inR a v = inR b v) → a = b
  | [], [], _, _, _ => rfl
  | [], b :: r, _, hb, h => by
    have := h b (.inr List.mem_cons_self)
    unfold inR at this
    rw [show lx b b = false from lexLt_irr b, inR_gt (List.pairwise_cons.mp hb).1] at this
    cases this
  | a :: r, [], ha, _, h => by
    have := h a (.inl List.mem_cons_self)
    unfold inR at this
    rw [show lx a a = false from lexLt_irr a, inR_gt (List.pairwise_cons.mp ha).1] at this
    cases this
  | a :: r, b :: q, ha, hb, h => by
    obtain ⟨a1, a2⟩ := List.pairwise_cons.mp ha
    obtain ⟨b1, b2⟩ := List.pairwise_cons.mp hb
    have e1 : inR (a :: r) a = true := by unfold inR; rw [show lx a a = false from lexLt_irr a, inR_gt a1]; rfl
    have e2 : inR (b :: q) b = true := by unfold inR; rw [show lx b b = false from lexLt_irr b, inR_gt b1]; rfl
    have hab : lx a b = false := by
      cases e : lx a b with
      | false => rfl
      | true =>
        have := h a (.inl List.mem_cons_self)
        rw [e1] at this
        unfold inR at this
        rw [e] at this; cases this
    have hba : lx b a = false := by
      cases e : lx b a with
      | false => rfl
      | true =>
        have := h b (.inr List.mem_cons_self)
        rw [e2] at this
        unfold inR at this
        rw [e] at this; cases this
    have e := lexLt_tri hab hba
    subst e
    rw [rg_ext a2 b2 fun v hv => ?_]
    have hav : lx a v = true := by
      rcases hv with hv | hv
      · exact a1 v hv
      · exact b1 v hv
    have := h v (by rcases hv with hv | hv; exact .inl (List.mem_cons_of_mem _ hv); exact .inr (List.mem_cons_of_mem _ hv))
    unfold inR at this
    rw [lx_asymm hav] at this
    simpa using this
/-- where a property turns -/
def tog (f : VL → Bool) : Bool → List VL → List VL
  | _, [] => []
  | was, v :: vs => if f v != was then v :: tog f (f v) vs else tog f was vs
/-- the property at the greatest one not above v -/
def lst (f : VL → Bool) : Bool → List VL → VL → Bool
  | was, [], _ => was
  | was, u :: us, v => if lx v u then was else lst f (f u) us v
theorem tog_sub (f : VL → Bool) : ∀ (was : Bool) (vs : List VL), (tog f was vs).Sublist vs
  | _, [] => .slnil
  | was, v :: vs => by
    unfold tog
    split
    · exact (tog_sub f _ vs).cons₂ v
    · exact (tog_sub f _ vs).cons v
theorem lst_gt {f : VL → Bool} {was : Bool} : ∀ {vs : List VL} {v : VL}, (∀ x ∈ vs, lx v x = true) → lst f was vs v = was
  | [], _, _ => rfl
  | u :: us, v, h => by unfold lst; rw [h u List.mem_cons_self]; rfl
theorem inR_tog (f : VL → Bool) : ∀ (was : Bool) (vs : List VL) (v : VL), Asc vs → inR (tog f was vs) v = (lst f was vs v != was)
  | was, [], v, _ => by unfold tog lst inR; simp
  | was, u :: us, v, h => by
    obtain ⟨h1, h2⟩ := List.pairwise_cons.mp h
    unfold tog lst
    by_cases e : (f u != was) = true
    · rw [if_pos e]
      unfold inR
      rw [inR_tog f _ us v h2]
      cases e2 : lx v u with
      | true => simp
      | false =>
        simp only [Bool.not_false, Bool.true_and, Bool.false_eq_true, if_false]
        revert e
        generalize lst f (f u) us v = L
        generalize f u = p
        cases L <;> cases p <;> cases was <;> simp
    · rw [if_neg e]
      have e : f u = was := by
        revert e
        generalize f u = p
        cases p <;> cases was <;> simp
      rw [inR_tog f _ us v h2]
      cases e2 : lx v u with
      | true =>
        rw [lst_gt fun x hx => lexLt_trans e2 (h1 x hx)]
        simp
      | false =>
        simp only [Bool.false_eq_true, if_false]
        rw [e]
theorem lst_map (F : Bool → Bool → Bool) (f g : VL → Bool) : ∀ (p q : Bool) (vs : List VL) (v : VL), lst (fun u => F (f u) (g u)) (F p q) vs v = F (lst f p vs v) (lst g q vs v)
  | _, _, [], _ => rfl
  | p, q, u :: us, v => by
    unfold lst
    split
    · rfl
    · exact lst_map F f g _ _ us v
theorem lst_in {a : List VL} : ∀ {vs : List VL} {w v : VL}, Asc (w :: vs) → (∀ x ∈ a, x ∈ vs ∨ lx w x = false) → lx v w = false → lst (inR a) (inR a w) vs v = inR a v
  | [], w, v, _, h, hw => by
    refine inR_same fun x hx => ?_
    rcases h x hx with z | z
    · cases z
    · rw [show lx w x = false from z, lx_le_le z hw]
  | u :: us, w, v, ha, h, hw => by
    obtain ⟨h1, h2⟩ := List.pairwise_cons.mp ha
    unfold lst
    cases e : lx v u with
    | true =>
      simp only [if_true]
      refine inR_same fun x hx => ?_
      rcases h x hx with z | z
      · have : lx v x = true := by
          rcases List.mem_cons.mp z with rfl | z
          · exact e
          · exact lexLt_trans e ((List.pairwise_cons.mp h2).1 x z)
        rw [show lx v x = true from this, lx_le_lt hw this]
      · rw [show lx w x = false from z, lx_le_le z hw]
    | false =>
      simp only [Bool.false_eq_true, if_false]
      refine lst_in h2 (fun x hx => ?_) e
      rcases h x hx with z | z
      · rcases List.mem_cons.mp z with rfl | z
        · exact .inr (lexLt_irr _)
        · exact .inl z
      · exact .inr (lx_le_le z (lx_asymm (h1 u List.mem_cons_self)))
theorem lst_own {a vs : List VL} {v : VL} (ha : Asc vs) (h : ∀ x ∈ a, x ∈ vs) : lst (inR a) false vs v = inR a v := by
  cases vs with
  | nil =>
    have : a = [] := by
      cases a with
      | nil => rfl
      | cons x r => cases h x List.mem_cons_self
    subst this; rfl
  | cons u us =>
    unfold lst
    cases e : lx v u with
    | true =>
      simp only [if_true]
      refine (inR_gt fun x hx => ?_).symm
      rcases List.mem_cons.mp (h x hx) with rfl | z
      · exact e
      · exact lexLt_trans e ((List.pairwise_cons.mp ha).1 x z)
    | false =>
      simp only [Bool.false_eq_true, if_false]
      refine lst_in ha (fun x hx => ?_) e
      rcases List.mem_cons.mp (h x hx) with rfl | z
      · exact .inr (lexLt_irr _)
      · exact .inl z
/-! ### ascending, without repetitions -/
def insV (x : VL) : List VL → List VL
  | [] => [x]
  | y :: r => if lx x y then x :: y :: r else if lx y x then y :: insV x r else y :: r
def srt (xs : List VL) : List VL := xs.foldr insV []
theorem mem_insV {x z : VL} : ∀ {l : List VL}, z ∈ insV x l ↔ z = x ∨ z ∈ l
  | [] => by simp [insV]
  | y :: r => by
    unfold insV
    cases e1 : lx x y with
    | true => simp
    | false =>
      cases e2 : lx y x with
      | true =>
        simp only [Bool.false_eq_true, if_false, if_true, List.mem_cons, mem_insV (l := r)]
        constructor
        · rintro (h | h | h)
          · exact .inr (.inl h)
          · exact .inl h
          · exact .inr (.inr h)
        · rintro (h | h | h)
          · exact .inr (.inl h)
          · exact .inl h
          · exact .inr (.inr h)
      | false =>
        have e := lexLt_tri e1 e2
        subst e
        simp
theorem asc_insV {x : VL} : ∀ {l : List VL}, Asc l → Asc (insV x l)
  | [], _ => List.pairwise_singleton _ _
  | y :: r, h => by
    obtain ⟨h1, h2⟩ := List.pairwise_cons.mp h
    unfold insV
    cases e1 : lx x y with
    | true =>
      simp only [if_true]
      refine List.pairwise_cons.mpr ⟨fun z hz => ?_, h⟩
      rcases List.mem_cons.mp hz with rfl | hz
      · exact e1
      · exact lexLt_trans e1 (h1 z hz)
    | false =>
      cases e2 : lx y x with
      | true =>
        simp only [Bool.false_eq_true, if_false, if_true]
        refine List.pairwise_cons.mpr ⟨fun z hz => ?_, asc_insV h2⟩
        rcases mem_insV.mp hz with rfl | hz
        · exact e2
        · exact h1 z hz
      | false =>
        simp only [Bool.false_eq_true, if_false]
        exact h
theorem mem_srt {z : VL} : ∀ {xs : List VL}, z ∈ srt xs ↔ z ∈ xs
  | [] => .rfl
  | x :: xs => by
    show z ∈ insV x (srt xs) ↔ _
    rw [mem_insV, mem_srt, List.mem_cons]
theorem asc_srt : ∀ {xs : List VL}, Asc (srt xs)
  | [] => .nil
  | x :: xs => asc_insV (asc_srt (xs := xs))
theorem asc_ext : ∀ {a b : List VL}, Asc a → Asc b → (∀ z, z ∈ a ↔ z ∈ b) → a = b
  | [], [], _, _, _ => rfl
  | [], b :: r, _, _, h => by cases (h b).mpr List.mem_cons_self
  | a :: r, [], _, _, h => by cases (h a).mp List.mem_cons_self
  | a :: r, b :: q, ha, hb, h => by
    obtain ⟨a1, a2⟩ := List.pairwise_cons.mp ha
    obtain ⟨b1, b2⟩ := List.pairwise_cons.mp hb
    have e : a = b := by
      rcases List.mem_cons.mp ((h a).mp List.mem_cons_self) with e | m
      · exact e
      · rcases List.mem_cons.mp ((h b).mpr List.mem_cons_self) with e | m2
        · exact e.symm
        · have := lx_asymm (b1 a m)
          rw [a1 b m2] at this; cases this
    subst e
    rw [asc_ext a2 b2 fun z => ?_]
    constructor
    · intro hz
      rcases List.mem_cons.mp ((h z).mp (List.mem_cons_of_mem _ hz)) with e | m
      · subst e; have := a1 _ hz; rw [show lx z z = false from lexLt_irr z] at this; cases this
      · exact m
    · intro hz
      rcases List.mem_cons.mp ((h z).mpr (List.mem_cons_of_mem _ hz)) with e | m
      · subst e; have := b1 _ hz; rw [show lx z z = false from lexLt_irr z] at this; cases this
      · exact m
theorem srt_asc {a : List VL} (h : Asc a) : srt a = a := asc_ext asc_srt h fun z => mem_srt
theorem len_insV {x : VL} : ∀ {l : List VL}, (insV x l).length ≤ l.length + 1
  | [] => Nat.le_refl _
  | y :: r => by
    unfold insV
    have := len_insV (x := x) (l := r)
    split
    · simp
    · split
      · simp; omega
      · simp
theorem len_srt : ∀ {xs : List VL}, (srt xs).length ≤ xs.length
  | [] => Nat.le_refl _
  | x :: xs => by
    have h1 := len_insV (x := x) (l := srt xs)
    have h2 := len_srt (xs := xs)
    show (insV x (srt xs)).length ≤ _
    simp only [List.length_cons]; omega
/-! ### two ranges put together -/
def comb (F : Bool → Bool → Bool) (a b : List VL) : List VL := tog (fun u => F (inR a u) (inR b u)) false (srt (a ++ b))
structure Cmb (F : Bool → Bool → Bool) (a b c : List VL) : Prop where
  asc : Asc c
  inr : ∀ v, inR c v = F (inR a v) (inR b v)
theorem Cmb.eq {F : Bool → Bool → Bool} {a b c d : List VL} (h1 : Cmb F a b c) (h2 : Cmb F a b d) : c = d := rg_ext h1.asc h2.asc fun v _ => by rw [h1.inr, h2.inr]
/-- the turns among any ascending borders that hold those of both -/
theorem cmb_tog {F : Bool → Bool → Bool} {a b vs : List VL} (h0 : F false false = false) (hv : Asc vs) (ha : ∀ x ∈ a, x ∈ vs) (hb : ∀ x ∈ b, x ∈ vs) : Cmb F a b (tog (fun u => F (inR a u) (inR b u)) false vs) where
  asc := List.Pairwise.sublist (tog_sub _ _ _) hv
  inr := fun v => by
    have h := inR_tog (fun u => F (inR a u) (inR b u)) false vs v hv
    have h2 := lst_map F (inR a) (inR b) false false vs v
    rw [h0] at h2
    rw [h, h2, lst_own hv ha, lst_own hv hb]
    simp
theorem cmb {F : Bool → Bool → Bool} {a b : List VL} (h0 : F false false = false) : Cmb F a b (comb F a b) :=
  cmb_tog h0 asc_srt (fun x hx => mem_srt.mpr (List.mem_append_left _ hx)) fun x hx => mem_srt.mpr (List.mem_append_right _ hx)
theorem comb_tog {F : Bool → Bool → Bool} {a b vs : List VL} (h0 : F false false = false) (hv : Asc vs) (ha : ∀ x ∈ a, x ∈ vs) (hb : ∀ x ∈ b, x ∈ vs) : tog (fun u => F (inR a u) (inR b u)) false vs = comb F a b := (cmb_tog h0 hv ha hb).eq (cmb h0)
theorem comb_mem {F : Bool → Bool → Bool} {a b : List VL} {x : VL} (h : x ∈ comb F a b) : x ∈ a ∨ x ∈ b := List.mem_append.mp (mem_srt.mp ((tog_sub _ _ _).subset h))
theorem comb_len {F : Bool → Bool → Bool} {a b : List VL} : (comb F a b).length ≤ a.length + b.length := by
  have h1 := (tog_sub (fun u => F (inR a u) (inR b u)) false (srt (a ++ b))).length_le
  have h2 := len_srt (xs := a ++ b)
  rw [List.length_append] at h2
  unfold comb; omega
def orF (p q : Bool) : Bool := p || q
def andF (p q : Bool) : Bool := p && q
def dif (p q : Bool) : Bool := p && !q
/-- what has these versions is this range -/
theorem is_comb {F : Bool → Bool → Bool} {a b c : List VL} (h0 : F false false = false) (hc : Asc c) (h : ∀ v, inR c v = F (inR a v) (inR b v)) : comb F a b = c := (cmb h0).eq ⟨hc, h⟩
theorem asc_comb {F : Bool → Bool → Bool} {a b : List VL} (h0 : F false false = false) : Asc (comb F a b) := (cmb h0).asc
theorem inR_comb {F : Bool → Bool → Bool} {a b : List VL} {v : VL} (h0 : F false false = false) : inR (comb F a b) v = F (inR a v) (inR b v) := (cmb h0).inr v
/-! ### pairs -/
def rgp : List VL → List (VL × Option VL)
  | [] => []
  | [a] => [(a, none)]
  | a :: b :: r => (a, some b) :: rgp r
theorem asc2 {a b : VL} {r : List VL} (h : Asc (a :: b :: r)) : lx a b = true ∧ Asc r ∧ ∀ x ∈ r, lx b x = true := by
  obtain ⟨h1, h2⟩ := List.pairwise_cons.mp h
  obtain ⟨h3, h4⟩ := List.pairwise_cons.mp h2
  exact ⟨h1 b List.mem_cons_self, h4, h3⟩
def inP (v : VL) (p : VL × Option VL) : Bool := !lx v p.1 && (match p.2 with | none => true | some u => lx v u)
theorem any_rgp : ∀ {bs : List VL} {v : VL}, Asc bs → (rgp bs).any (inP v) = inR bs v
  | [], _, _ => rfl
  | [a], v, _ => by simp [rgp, inP, inR]
  | a :: b :: r, v, h => by
    obtain ⟨h1, h2, h3⟩ := asc2 h
    have ih := any_rgp (v := v) h2
    unfold rgp
    rw [List.any_cons, ih]
    unfold inP
    rw [inR_cons, inR_cons]
    cases e1 : lx v a with
    | true => simp [e1, inR_gt fun x hx => lexLt_trans (lexLt_trans e1 h1) (h3 x hx)]
    | false =>
      cases e2 : lx v b with
      | true =>
        simp [e1, e2]
      | false =>
        simp [e1, e2]
theorem rgp_low : ∀ {bs : List VL} {p : VL × Option VL}, p ∈ rgp bs → p.1 ∈ bs
  | [], p, h => by cases h
  | [a], p, h => by
    have : p = (a, none) := by simpa [rgp] using h
    subst this; exact List.mem_cons_self
  | a :: b :: r, p, h => by
    rcases List.mem_cons.mp (show p ∈ (a, some b) :: rgp r from h) with rfl | h
    · exact List.mem_cons_self
    · exact List.mem_cons_of_mem _ (List.mem_cons_of_mem _ (rgp_low h))
theorem rgp_high : ∀ {bs : List VL} {p : VL × Option VL} {u : VL}, p ∈ rgp bs → p.2 = some u → u ∈ bs
  | [], p, _, h, _ => by cases h
  | [a], p, u, h, e => by
    have : p = (a, none) := by simpa [rgp] using h
    subst this; cases e
  | a :: b :: r, p, u, h, e => by
    rcases List.mem_cons.mp (show p ∈ (a, some b) :: rgp r from h) with rfl | h
    · have e := Option.some.inj e
      subst e
      exact List.mem_cons_of_mem _ List.mem_cons_self
    · exact List.mem_cons_of_mem _ (List.mem_cons_of_mem _ (rgp_high h e))
theorem rgp_lt : ∀ {bs : List VL} {p : VL × Option VL} {u : VL}, Asc bs → p ∈ rgp bs → p.2 = some u → lx p.1 u = true
  | [], p, _, _, h, _ => by cases h
  | [a], p, u, _, h, e => by
    have : p = (a, none) := by simpa [rgp] using h
    subst this; cases e
  | a :: b :: r, p, u, ha, h, e => by
    obtain ⟨h1, h2, h3⟩ := asc2 ha
    rcases List.mem_cons.mp (show p ∈ (a, some b) :: rgp r from h) with rfl | h
    · have e := Option.some.inj e
      subst e; exact h1
    · exact rgp_lt h2 h e
theorem rgp_next : ∀ {bs : List VL} {i : Nat} {p q : VL × Option VL}, Asc bs → (rgp bs)[i]? = some p → (rgp bs)[i + 1]? = some q → ∃ u, p.2 = some u ∧ lx u q.1 = true
  | [], i, p, q, _, h, _ => by simp [rgp] at h
  | [a], i, p, q, _, _, h => by simp [rgp] at h
  | a :: b :: r, 0, p, q, ha, h1, h2 => by
    obtain ⟨g1, g2, g3⟩ := asc2 ha
    have h1 : (a, some b) = p := by simpa [rgp] using h1
    subst h1
    have h2 : (rgp r)[0]? = some q := by simpa [rgp] using h2
    exact ⟨b, rfl, g3 _ (rgp_low (List.mem_of_getElem? h2))⟩
  | a :: b :: r, i + 1, p, q, ha, h1, h2 => by
    obtain ⟨g1, g2, g3⟩ := asc2 ha
    exact rgp_next (bs := r) (i := i) g2 (by simpa [rgp] using h1) (by simpa [rgp] using h2)
theorem rgp_len : ∀ {bs : List VL}, (rgp bs).length ≤ bs.length
  | [] => Nat.le_refl _
  | [a] => Nat.le_refl _
  | a :: b :: r => by
    have := rgp_len (bs := r)
    show (rgp r).length + 1 ≤ r.length + 2
    omega
theorem rgp_eq : ∀ {a b : List VL}, rgp a = rgp b → a = b
  | [], [], _ => rfl
  | [], [_], h => by cases h
  | [], _ :: _ :: _, h => by cases h
  | [_], [], h => by cases h
  | [a], [b], h => by
    have := List.cons.inj (show [(a, none)] = [(b, none)] from h)
    rw [(Prod.mk.inj this.1).1]
  | [a], b :: c :: r, h => by
    have := List.cons.inj (show [(a, (none : Option VL))] = (b, some c) :: rgp r from h)
    cases (Prod.mk.inj this.1).2
  | _ :: _ :: _, [], h => by cases h
  | b :: c :: r, [a], h => by
    have := List.cons.inj (show (b, some c) :: rgp r = [(a, (none : Option VL))] from h)
    cases (Prod.mk.inj this.1).2
  | a :: b :: r, c :: d :: q, h => by
    have := List.cons.inj (show (a, some b) :: rgp r = (c, some d) :: rgp q from h)
    obtain ⟨e1, e2⟩ := Prod.mk.inj this.1
    have e2 := Option.some.inj e2
    subst e1 e2
    rw [rgp_eq this.2]
def optD : Option VL → D
  | none => .non
  | some v => tupI v
def prD (p : VL × Option VL) : D := .tup [tupI p.1, optD p.2]
def rgD (bs : List VL) : D := .tup ((rgp bs).map prD)
end MP

set_option Elab.async false
set_option linter.all false
set_option maxRecDepth 100000
set_option maxHeartbeats 1000000
/-! Texts and comparisons of data. -/
namespace MP
open PySem PySem.Spec PyProof.Rows L2

structure Rp (n m : Nat) (d : D) (x : PyData) : Prop where
  e : py d = some x
  sh : PyData.showable x = true
  lv : PyData.leavesShort 13 x = true
  wt : PyData.weight x ≤ n
  dp : PyData.depth x ≤ m
  ly : PyData.canLay0 x = true
structure RpA (n m : Nat) (d : List D) (x : List PyData) : Prop where
  e : pyAll d = some x
  sh : PyData.showableAll x = true
  lv : PyData.leavesShortAll 13 x = true
  wt : PyData.weightAll x ≤ n
  dp : PyData.depthAll x ≤ m
  ly : PyData.canLayAll0 x = true
theorem RpA.nil {n m : Nat} : RpA n m [] [] := ⟨rfl, rfl, rfl, Nat.zero_le _, Nat.zero_le _, rfl⟩
theorem RpA.cons {n n' m : Nat} {d : D} {x : PyData} {ds : List D} {xs : List PyData} (h : Rp n m d x) (t : RpA n' m ds xs) : RpA (n + 1 + n') m (d :: ds) (x :: xs) where
  e := by unfold pyAll; rw [h.e, t.e]; rfl
  sh := by unfold PyData.showableAll; rw [h.sh, t.sh]; rfl
  lv := by unfold PyData.leavesShortAll; rw [h.lv, t.lv]; rfl
  wt := by unfold PyData.weightAll; have := h.wt; have := t.wt; omega
  dp := by unfold PyData.depthAll; have := h.dp; have := t.dp; omega
  ly := by unfold PyData.canLayAll0; rw [h.ly, t.ly]; rfl
theorem Rp.mono {n n' m m' : Nat} {d : D} {x : PyData} (h : Rp n m d x) (h1 : n ≤ n') (h2 : m ≤ m') : Rp n' m' d x := ⟨h.e, h.sh, h.lv, Nat.le_trans h.wt h1, Nat.le_trans h.dp h2, h.ly⟩
theorem RpA.mono {n n' m m' : Nat} {d : List D} {x : List PyData} (h : RpA n m d x) (h1 : n ≤ n') (h2 : m ≤ m') : RpA n' m' d x := ⟨h.e, h.sh, h.lv, Nat.le_trans h.wt h1, Nat.le_trans h.dp h2, h.ly⟩
theorem Rp.tup {n m : Nat} {ds : List D} {xs : List PyData} (h : RpA n m ds xs) : Rp n (m + 1) (.tup ds) (.tuple xs) where
  e := by unfold py; rw [h.e]; rfl
  sh := by unfold PyData.showable; exact h.sh
  lv := by unfold PyData.leavesShort; exact h.lv
  wt := by unfold PyData.weight; exact h.wt
  dp := by unfold PyData.depth; have := h.dp; omega
  ly := by unfold PyData.canLay0; exact h.ly
theorem Rp.lst {n m : Nat} {ds : List D} {xs : List PyData} (h : RpA n m ds xs) : Rp n (m + 1) (.lst ds) (.list xs) where
  e := by unfold py; rw [h.e]; rfl
  sh := by unfold PyData.showable; exact h.sh
  lv := by unfold PyData.leavesShort; exact h.lv
  wt := by unfold PyData.weight; exact h.wt
  dp := by unfold PyData.depth; have := h.dp; omega
  ly := by unfold PyData.canLay0; exact h.ly
theorem Rp.fl {n m : Nat} {ds : List D} {xs : List PyData} (h : RpA n m ds xs) : Rp n (m + 1) (.fl ds) (.list xs) where
  e := by unfold py; rw [h.e]; rfl
  sh := by unfold PyData.showable; exact h.sh
  lv := by unfold PyData.leavesShort; exact h.lv
  wt := by unfold PyData.weight; exact h.wt
  dp := by unfold PyData.depth; have := h.dp; omega
  ly := by unfold PyData.canLay0; exact h.ly
theorem Rp.int {i : Int} (h : small i) {m : Nat} : Rp 64 m (.int i) (.int i) := ⟨rfl, by unfold PyData.showable; have := small_log h; rw [decide_eq_true (by omega : i.natAbs.log2 < 1920)], by unfold PyData.leavesShort; rw [decide_eq_true (small_shown h)], small_weight h, Nat.zero_le _, rfl⟩
theorem Rp.bl {b : Bool} {m : Nat} : Rp 64 m (.bl b) (.bool b) := ⟨rfl, by unfold PyData.showable; rfl, by unfold PyData.leavesShort; rfl, by unfold PyData.weight; decide, Nat.zero_le _, rfl⟩
theorem Rp.non {m : Nat} : Rp 64 m .non .none := ⟨rfl, by unfold PyData.showable; rfl, by unfold PyData.leavesShort; rfl, by unfold PyData.weight; decide, Nat.zero_le _, rfl⟩
theorem RpA.map {α : Type} {n m : Nat} {f : α → D} {g : α → PyData} : ∀ {l : List α}, (∀ a ∈ l, Rp n m (f a) (g a)) → RpA ((n + 1) * l.length) m (l.map f) (l.map g)
  | [], _ => .nil
  | a :: l, h => (RpA.cons (h a List.mem_cons_self) (RpA.map fun b hb => h b (List.mem_cons_of_mem _ hb))).mono (by rw [List.length_cons, Nat.mul_succ]; omega) (Nat.le_refl _)
/-- what repr asks -/
theorem Rp.fin {n m : Nat} {d : D} {x : PyData} (h : Rp n m d x) (h1 : m ≤ 60) (h2 : n ≤ 1000000) : py d = some x ∧ PyData.showable x = true ∧ PyData.depth x ≤ 60 ∧ (PyData.shown x).length ≤ big := by
  refine ⟨h.e, h.sh, Nat.le_trans h.dp h1, ?_⟩
  have := PyData.shown_le 13 (by decide) x h.lv
  have := h.wt
  have eb : big = 16777216 := rfl
  omega
theorem Rp.shp {n m : Nat} {d : D} {x : PyData} (h : Rp n m d x) (h1 : m ≤ 60) : SeqAt.shaped x = true := by
  unfold SeqAt.shaped
  rw [h.ly]
  have := h.dp
  simp only [Bool.true_and, decide_eq_true_eq]
  omega
/-! ### versions, ranges -/
def verX (v : VL) : PyData := .tuple (v.map .int)
def optX : Option VL → PyData
  | none => .none
  | some v => verX v
def prX (p : VL × Option VL) : PyData := .tuple [verX p.1, optX p.2]
def rgX (bs : List VL) : PyData := .tuple ((rgp bs).map prX)
theorem rp_ver {v : VL} (h : (∀ n ∈ v, small n) ∧ v.length ≤ 5) : Rp 325 1 (tupI v) (verX v) := by
  have := RpA.map (n := 64) (m := 0) (f := D.int) (g := PyData.int) (l := v) fun i hi => Rp.int (h.1 i hi)
  exact (Rp.tup this).mono (by have := h.2; omega) (Nat.le_refl _)
theorem rp_pr {p : VL × Option VL} (h1 : (∀ n ∈ p.1, small n) ∧ p.1.length ≤ 5) (h2 : ∀ u, p.2 = some u → (∀ n ∈ u, small n) ∧ u.length ≤ 5) : Rp 652 2 (prD p) (prX p) := by
  obtain ⟨l, o⟩ := p
  refine (Rp.tup (RpA.cons (m := 1) (rp_ver h1) (.cons (n := 325) (n' := 0) ?_ .nil))).mono (by omega) (Nat.le_refl _)
  cases o with
  | none => exact (Rp.non (m := 0)).mono (by omega) (by omega)
  | some u => exact rp_ver (h2 u rfl)
theorem rp_rg {bs : List VL} (h : ∀ b ∈ bs, (∀ n ∈ b, small n) ∧ b.length ≤ 5) (hl : bs.length ≤ 100) : Rp 65300 3 (rgD bs) (rgX bs) := by
  refine (Rp.tup (RpA.map fun p hp => rp_pr (h _ (rgp_low hp)) fun u hu => h _ (rgp_high hp hu))).mono ?_ (Nat.le_refl _)
  have := rgp_len (bs := bs)
  omega
/-! ### equal data -/
theorem eqv_ints : ∀ {a b : List Int}, PyData.eqvAll (a.map .int) (b.map .int) = decide (a = b)
  | [], [] => rfl
  | [], _ :: _ => by simp [PyData.eqvAll]
  | _ :: _, [] => by simp [PyData.eqvAll]
  | x :: a, y :: b => by
    simp only [List.map_cons, PyData.eqvAll, eqv_ints (a := a) (b := b), PyData.eqv]
    by_cases h1 : x = y <;> by_cases h2 : a = b <;> simp [h1, h2]
theorem eqv_ver {a b : VL} : PyData.eqv (verX a) (verX b) = decide (a = b) := by unfold verX PyData.eqv; exact eqv_ints
theorem eqv_opt {a b : Option VL} : PyData.eqv (optX a) (optX b) = decide (a = b) := by
  cases a <;> cases b
  · rfl
  · simp [optX, verX, PyData.eqv]
  · simp [optX, verX, PyData.eqv]
  · simp only [optX, eqv_ver]; simp
theorem eqv_pr {p q : VL × Option VL} : PyData.eqv (prX p) (prX q) = decide (p = q) := by
  obtain ⟨a, b⟩ := p
  obtain ⟨c, d⟩ := q
  unfold prX
  simp only [PyData.eqv, PyData.eqvAll, eqv_ver, eqv_opt]
  by_cases h1 : a = c <;> by_cases h2 : b = d <;> simp [h1, h2]
theorem eqv_prs : ∀ {a b : List (VL × Option VL)}, PyData.eqvAll (a.map prX) (b.map prX) = decide (a = b)
  | [], [] => rfl
  | [], _ :: _ => by simp [PyData.eqvAll]
  | _ :: _, [] => by simp [PyData.eqvAll]
  | x :: a, y :: b => by
    simp only [List.map_cons, PyData.eqvAll, eqv_prs (a := a) (b := b), eqv_pr]
    by_cases h1 : x = y <;> by_cases h2 : a = b <;> simp [h1, h2]
theorem eqv_rg {a b : List VL} : PyData.eqv (rgX a) (rgX b) = decide (a = b) := by
  unfold rgX PyData.eqv
  rw [eqv_prs]
  by_cases h : a = b
  · subst h; simp
  · rw [decide_eq_false h, decide_eq_false fun e => h (rgp_eq e)]
theorem bls_map {α : Type} {g : α → Bool} : ∀ {l : List α}, bls? (l.map fun x => D.bl (g x)) = some (l.map g)
  | [] => rfl
  | a :: l => by
    show (bls? (l.map fun x => D.bl (g x))).map (g a :: ·) = _
    rw [bls_map]; rfl
theorem rg_flat : ∀ {bs : List VL}, (rgp bs).flatMap (fun p => p.1 :: p.2.toList) = bs
  | [] => rfl
  | [a] => rfl
  | a :: b :: r => by
    show (a :: [b]) ++ (rgp r).flatMap _ = _
    rw [rg_flat]; rfl
end MP

set_option Elab.async false
set_option linter.all false
set_option maxRecDepth 100000
set_option maxHeartbeats 4000000
namespace K36
open PySem PySem.Spec PyProof.Rows L2 MP
def topS (i : Nat) : Stmt := PySem.Challenge.pw_versionjudge_k36_problems_bars_and_choic.main.body.getD i (.Pass ⟨0, 0, 0, 0⟩)
def gloN : List Str := []
def gloD : List D := []
/-! 0: _law_deck; 0=_law_script 1=_law_mixed 2=_law_cell -/
abbrev S0 : Stmt := topS 21
def B0 : PSt := (.cons (.asg (.one 1) (.cst (.int 13743044))) (.cons (.for_ (.one 2) (.itx (.slc (.var 0) (.cst .non) (.cst (.int 63)))) (.cons (.asg (.one 1) (.bin .Mod (.bi .int (.cons (.bin .Add (.bin .Add (.bin .Mult (.var 1) (.cst (.int 48271))) (.bin .Mod (.bi .int (.cons (.var 2) .nil)) (.cst (.int 2305843009213693921)))) (.cst (.int 23))) .nil)) (.cst (.int 2305843009213693951)))) .nil)) (.cons (.ret (.dct [.inr "cells", .inr "mixed", .inr "turn"] (.cons (.rev (.lc (.bi .int (.cons (.var 2) .nil)) (.one 2) (.itx (.slc (.var 0) (.cst .non) (.cst (.int 63)))) (.cst (.bl true)) [2])) (.cons (.var 1) (.cons (.cst (.int 0)) .nil))))) .nil)))
def N0 : List Str := ["_law_script", "_law_mixed", "_law_cell"]
/-! 1: _law_draw; 0=_law_deck_here 1=_law_below 2=_law_number 3=_law_cell -/
abbrev S1 : Stmt := topS 22
def B1 : PSt := (.cons (.asgS (.var 0) (.cst (.str "turn")) (.bin .Add (.sub (.var 0) (.cst (.str "turn"))) (.cst (.int 1)))) (.cons (.asg (.one 2) (.bin .Add (.sub (.var 0) (.cst (.str "mixed"))) (.bin .Mult (.cst (.int 1099511627791)) (.sub (.var 0) (.cst (.str "turn")))))) (.cons (.ite (.cmp .NotEq (.sub (.var 0) (.cst (.str "cells"))) (.lst .nil)) (.cons (.asg (.one 3) (.mth .pop (.sub (.var 0) (.cst (.str "cells"))) .nil)) (.cons (.ite (.cmp .GtE (.var 3) (.bin .Pow (.cst (.int 10)) (.cst (.int 18)))) (.cons (.exp (.mth .append (.sub (.var 0) (.cst (.str "cells"))) (.cons (.bin .FloorDiv (.var 3) (.bi .max2 (.cons (.cst (.int 2)) (.cons (.var 1) .nil)))) .nil))) (.cons (.ret (.bin .Mod (.bi .int (.cons (.var 3) .nil)) (.var 1))) .nil)) .nil) (.cons (.asg (.one 2) (.bin .Add (.var 2) (.bin .Mod (.bi .int (.cons (.var 3) .nil)) (.cst (.int 2305843009213693921))))) .nil))) .nil) (.cons (.asg (.one 2) (.bin .Mod (.bi .int (.cons (.bin .Add (.bin .Mult (.var 2) (.cst (.int 6364136223846793005))) (.cst (.int 1442695040888963407))) .nil)) (.cst (.int 2305843009213693951)))) (.cons (.asg (.one 2) (.bin .Mod (.bi .int (.cons (.bin .Add (.bin .Add (.bin .Mult (.var 2) (.var 2)) (.bin .Mult (.cst (.int 2862933555777941757)) (.sub (.var 0) (.cst (.str "turn"))))) (.cst (.int 17))) .nil)) (.cst (.int 2305843009213693951)))) (.cons (.ret (.bin .Mod (.bi .int (.cons (.bin .FloorDiv (.var 2) (.cst (.int 4096))) .nil)) (.var 1))) .nil))))))
def N1 : List Str := ["_law_deck_here", "_law_below", "_law_number", "_law_cell"]
/-! 2: _law_pick; 0=_law_deck_here 1=_law_some -/
abbrev S2 : Stmt := topS 23
def B2 : PSt := (.cons (.ret (.sub (.var 1) (.call 1 (.cons (.var 0) (.cons (.bi .len (.cons (.var 1) .nil)) .nil))))) .nil)
def N2 : List Str := ["_law_deck_here", "_law_some"]
/-! 3: _law_sizes; 0=_law_deck_here 1=_law_most 2=_law_many 3=_law_turn 4=_law_found 5=_law_product 6=_law_size -/
abbrev S3 : Stmt := topS 25
def B3 : PSt := (.cons (.par 4 5 (.lst .nil) (.cst (.int 1))) (.cons (.for_ (.one 3) (.rng (.cst (.int 0)) (.call 1 (.cons (.var 0) (.cons (.bin .Add (.var 2) (.cst (.int 1))) .nil)))) (.cons (.asg (.one 6) (.call 2 (.cons (.var 0) (.cons (.tup (.cons (.cst (.int 2)) (.cons (.cst (.int 3)) (.cons (.cst (.int 2)) (.cons (.cst (.int 1)) (.cons (.cst (.int 4)) (.cons (.cst (.int 3)) (.cons (.cst (.int 12)) (.cons (.cst (.int 2)) (.cons (.cst (.int 6)) .nil)))))))))) .nil)))) (.cons (.ite (.cmp .LtE (.bin .Mult (.var 5) (.var 6)) (.var 1)) (.cons (.exp (.mth .append (.var 4) (.cons (.var 6) .nil))) (.cons (.asg (.one 5) (.bin .Mult (.var 5) (.var 6))) .nil)) .nil) .nil))) (.cons (.ret (.bi .tuple (.cons (.var 4) .nil))) .nil)))
def N3 : List Str := ["_law_deck_here", "_law_most", "_law_many", "_law_turn", "_law_found", "_law_product", "_law_size"]
/-! 4: _law_shuffled; 0=_law_deck_here 1=_law_some 2=_law_left 3=_law_found -/
abbrev S4 : Stmt := topS 24
def B4 : PSt := (.cons (.par 2 3 (.bi .list (.cons (.var 1) .nil)) (.lst .nil)) (.cons (.whl (.cmp .NotEq (.var 2) (.lst .nil)) (.cons (.exp (.mth .append (.var 3) (.cons (.mth .popAt (.var 2) (.cons (.call 1 (.cons (.var 0) (.cons (.bi .len (.cons (.var 2) .nil)) .nil))) .nil)) .nil))) .nil)) (.cons (.ret (.var 3)) .nil)))
def N4 : List Str := ["_law_deck_here", "_law_some", "_law_left", "_law_found"]
/-! 5: _law_term; 0=_law_deck_here 1=_law_i 2=_law_size 3=_law_marks -/
abbrev S5 : Stmt := topS 26
def B5 : PSt := (.cons (.asg (.one 3) (.bi .sorted (.cons (.slc (.call 4 (.cons (.var 0) (.cons (.lrg false (.var 2)) .nil))) (.cst .non) (.bin .Add (.cst (.int 1)) (.call 1 (.cons (.var 0) (.cons (.bin .Sub (.var 2) (.cst (.int 1))) .nil))))) .nil))) (.cons (.ret (.tup (.cons (.var 1) (.cons (.bi .tuple (.cons (.var 3) .nil)) .nil)))) .nil))
def N5 : List Str := ["_law_deck_here", "_law_i", "_law_size", "_law_marks"]
/-! 6: _law_drawn_bar; 0=_law_deck_here 1=_law_sizes_here 2=_law_most 3=_law_places 4=_law_some 5=_law_i 6=_law_size -/
abbrev S6 : Stmt := topS 27
def B6 : PSt := (.cons (.asg (.one 3) (.lc (.var 5) (.many [5, 6]) (.enum (.var 1)) (.cmp .Gt (.var 6) (.cst (.int 1))) [5, 6])) (.cons (.asg (.one 4) (.bi .sorted (.cons (.slc (.call 4 (.cons (.var 0) (.cons (.var 3) .nil))) (.cst .non) (.call 2 (.cons (.var 0) (.cons (.tup (.cons (.cst (.int 1)) (.cons (.cst (.int 2)) (.cons (.cst (.int 2)) (.cons (.cst (.int 3)) (.cons (.var 2) (.cons (.cst (.int 1)) (.cons (.cst (.int 0)) .nil)))))))) .nil)))) .nil))) (.cons (.ret (.bi .tuple (.cons (.lc (.call 5 (.cons (.var 0) (.cons (.var 5) (.cons (.sub (.var 1) (.var 5)) .nil)))) (.one 5) (.itx (.slc (.var 4) (.cst .non) (.var 2))) (.cst (.bl true)) [5]) .nil))) .nil)))
def N6 : List Str := ["_law_deck_here", "_law_sizes_here", "_law_most", "_law_places", "_law_some", "_law_i", "_law_size"]
/-! 7: _law_problem; 0=_law_deck_here 1=_law_most 2=_law_many 3=_law_turn 4=_law_sizes_here 5=_law_bars 6=_law_bar -/
abbrev S7 : Stmt := topS 28
def B7 : PSt := (.cons (.par 4 5 (.call 3 (.cons (.var 0) (.cons (.var 1) (.cons (.var 2) .nil)))) (.lst .nil)) (.cons (.for_ (.one 3) (.rng (.cst (.int 0)) (.call 2 (.cons (.var 0) (.cons (.tup (.cons (.cst (.int 3)) (.cons (.cst (.int 5)) (.cons (.cst (.int 8)) (.cons (.cst (.int 12)) (.cons (.cst (.int 2)) (.cons (.cst (.int 0)) (.cons (.cst (.int 16)) .nil)))))))) .nil)))) (.cons (.asg (.one 6) (.call 6 (.cons (.var 0) (.cons (.var 4) (.cons (.cst (.int 4)) .nil))))) (.cons (.ite (.or (.cmp .NotEq (.var 6) (.tup .nil)) (.cmp .Eq (.call 1 (.cons (.var 0) (.cons (.cst (.int 12)) .nil))) (.cst (.int 0)))) (.cons (.exp (.mth .append (.var 5) (.cons (.var 6) .nil))) .nil) .nil) .nil))) (.cons (.ret (.tup (.cons (.var 4) (.cons (.bi .tuple (.cons (.var 5) .nil)) .nil)))) .nil)))
def N7 : List Str := ["_law_deck_here", "_law_most", "_law_many", "_law_turn", "_law_sizes_here", "_law_bars", "_law_bar"]
/-! 8: _law_odd; 0=_law_deck_here 1=_law_it 2=_law_some -/
abbrev S8 : Stmt := topS 34
def B8 : PSt := (.cons (.asg (.one 2) (.lst (.cons (.cst .non) (.cons (.cst (.bl true)) (.cons (.cst (.bl false)) (.cons (.cst (.int 0)) (.cons (.cst (.int 1)) (.cons (.neg (.cst (.int 1))) (.cons (.cst (.int 2)) (.cons (.cst (.int 7)) (.cons (.cst (.str "")) (.cons (.cst (.str "given")) (.cons (.cst (.str "join")) (.cons (.cst (.str "choice")) (.cons (.cst (.str "lines")) (.cons (.cst (.str "none")) (.cons (.tup .nil) (.cons (.tup (.cons (.tup .nil) .nil)) (.cons (.frz (.lst .nil)) (.cons (.frz (.dct [] .nil)) (.cons (.tup (.cons (.cst (.int 0)) .nil)) (.cons (.tup (.cons (.cst (.int 0)) (.cons (.tup (.cons (.cst (.int 0)) .nil)) .nil))) (.cons (.tup (.cons (.tup (.cons (.cst (.int 0)) (.cons (.tup (.cons (.cst (.int 0)) .nil)) .nil))) .nil)) (.cons (.bin .Pow (.cst (.int 10)) (.cst (.int 30))) .nil)))))))))))))))))))))))) (.cons (.ite (.isi "tuple" (.var 1)) (.cons (.asg (.one 2) (.bin .Add (.var 2) (.bin .Mult (.lst (.cons (.frz (.bi .list (.cons (.var 1) .nil))) (.cons (.bin .Add (.var 1) (.tup (.cons (.cst (.int 0)) .nil))) (.cons (.slc (.var 1) (.cst (.int 1)) (.cst .non)) (.cons (.slc (.var 1) (.cst .non) (.neg (.cst (.int 1)))) (.cons (.rev (.var 1)) (.cons (.bin .Add (.var 1) (.slc (.var 1) (.cst .non) (.cst (.int 1)))) (.cons (.tup (.cons (.var 1) .nil)) (.cons (.bin .Add (.slc (.var 1) (.cst .non) (.cst (.int 1))) (.var 1)) (.cons (.bin .Add (.slc (.var 1) (.cst .non) (.cst (.int 1))) (.slc (.var 1) (.cst (.int 2)) (.cst .non))) .nil)))))))))) (.cst (.int 3))))) .nil) (.cons (.ite (.isi "int" (.var 1)) (.cons (.asg (.one 2) (.bin .Add (.var 2) (.bin .Mult (.lst (.cons (.bin .Add (.var 1) (.cst (.int 1))) (.cons (.bin .Sub (.var 1) (.cst (.int 1))) (.cons (.neg (.var 1)) (.cons (.cmp .Eq (.var 1) (.cst (.int 1))) (.cons (.frz (.lst (.cons (.var 1) .nil))) (.cons (.tup (.cons (.var 1) .nil)) (.cons (.bi .str (.cons (.var 1) .nil)) .nil)))))))) (.cst (.int 3))))) .nil) (.cons (.ite (.isi "str" (.var 1)) (.cons (.asg (.one 2) (.bin .Add (.var 2) (.bin .Mult (.lst (.cons (.bin .Add (.var 1) (.cst (.str "s"))) (.cons (.bin .Add (.var 1) (.cst (.str " "))) (.cons (.slc (.var 1) (.cst (.int 1)) (.cst .non)) (.cons (.frz (.lst (.cons (.var 1) .nil))) (.cons (.tup (.cons (.var 1) .nil)) (.cons (.bin .Add (.var 1) (.var 1)) .nil))))))) (.cst (.int 3))))) .nil) .nil) .nil)) .nil)) (.cons (.ret (.call 2 (.cons (.var 0) (.cons (.var 2) .nil)))) .nil)))
def N8 : List Str := ["_law_deck_here", "_law_it", "_law_some"]
/-! 9: _law_bent; 0=_law_deck_here 1=_law_it 2=_law_at -/
abbrev S9 : Stmt := topS 35
def B9 : PSt := (.cons (.ite (.or (.not (.isi "tuple" (.var 1))) (.or (.cmp .Eq (.var 1) (.tup .nil)) (.cmp .Eq (.call 1 (.cons (.var 0) (.cons (.cst (.int 6)) .nil))) (.cst (.int 0))))) (.cons (.ret (.call 8 (.cons (.var 0) (.cons (.var 1) .nil)))) .nil) .nil) (.cons (.asg (.one 2) (.call 1 (.cons (.var 0) (.cons (.bi .len (.cons (.var 1) .nil)) .nil)))) (.cons (.ret (.bin .Add (.bin .Add (.slc (.var 1) (.cst .non) (.var 2)) (.tup (.cons (.call 9 (.cons (.var 0) (.cons (.sub (.var 1) (.var 2)) .nil))) .nil))) (.slc (.var 1) (.bin .Add (.var 2) (.cst (.int 1))) (.cst .non)))) .nil)))
def N9 : List Str := ["_law_deck_here", "_law_it", "_law_at"]
/-! 10: _law_great; 0=_law_deck_here 1=_law_sizes_here 2=_law_five 3=_law_some 4=_law_size 5=_law_many 6=_law_i -/
abbrev S10 : Stmt := topS 36
def B10 : PSt := (.cons (.par 4 5 (.call 2 (.cons (.var 0) (.cons (.tup (.cons (.cst (.int 13)) (.cons (.cst (.int 40)) (.cons (.bin .Pow (.cst (.int 10)) (.cst (.int 39))) .nil)))) .nil))) (.bi .len (.cons (.var 1) .nil))) (.cons (.asg (.one 2) (.bi .tuple (.cons (.lc (.tup (.cons (.var 6) (.cons (.tup (.cons (.call 1 (.cons (.var 0) (.cons (.cst (.int 2)) .nil))) .nil)) .nil))) (.one 6) (.rng (.cst (.int 0)) (.cst (.int 5))) (.cst (.bl true)) [6]) .nil))) (.cons (.asg (.one 3) (.lst (.cons (.tup (.cons (.bin .Add (.tup (.cons (.var 4) .nil)) (.var 1)) (.cons (.tup .nil) .nil))) (.cons (.tup (.cons (.bin .Add (.var 1) (.tup (.cons (.var 4) .nil))) (.cons (.tup (.cons (.tup (.cons (.tup (.cons (.var 5) (.cons (.tup (.cons (.cst (.int 0)) (.cons (.bin .Sub (.var 4) (.cst (.int 1))) .nil))) .nil))) .nil)) .nil)) .nil))) (.cons (.tup (.cons (.bin .Add (.var 1) (.tup (.cons (.var 4) .nil))) (.cons (.tup (.cons (.tup (.cons (.tup (.cons (.var 5) (.cons (.tup (.cons (.cst (.int 0)) (.cons (.var 4) .nil))) .nil))) .nil)) .nil)) .nil))) .nil))))) (.cons (.ret (.call 2 (.cons (.var 0) (.cons (.bin .Add (.var 3) (.lst (.cons (.tup (.cons (.bin .Add (.bin .Mult (.tup (.cons (.cst (.int 2)) .nil)) (.cst (.int 5))) (.var 1)) (.cons (.tup (.cons (.var 2) .nil)) .nil))) (.cons (.tup (.cons (.bin .Add (.bin .Add (.bin .Mult (.tup (.cons (.cst (.int 2)) .nil)) (.cst (.int 4))) (.tup (.cons (.cst (.int 1)) .nil))) (.var 1)) (.cons (.tup (.cons (.var 2) .nil)) .nil))) (.cons (.tup (.cons (.bin .Mult (.tup (.cons (.cst (.int 2)) .nil)) (.cst (.int 30))) (.cons (.tup (.cons (.tup (.cons (.tup (.cons (.cst (.int 29)) (.cons (.tup (.cons (.cst (.int 1)) .nil)) .nil))) .nil)) .nil)) .nil))) .nil))))) .nil)))) .nil))))
def N10 : List Str := ["_law_deck_here", "_law_sizes_here", "_law_five", "_law_some", "_law_size", "_law_many", "_law_i"]
/-! 11: is_row; 0=thing 1=many -/
abbrev S11 : Stmt := topS 7
def B11 : PSt := (.cons (.ret (.and (.isi "tuple" (.var 0)) (.cmp .Eq (.bi .len (.cons (.var 0) .nil)) (.var 1)))) .nil)
def N11 : List Str := ["thing", "many"]
/-! 12: is_integer; 0=thing -/
abbrev S12 : Stmt := topS 4
def B12 : PSt := (.cons (.ret (.and (.isi "int" (.var 0)) (.not (.isi "bool" (.var 0))))) .nil)
def N12 : List Str := ["thing"]
/-! 13: is_between; 0=thing 1=least 2=most -/
abbrev S13 : Stmt := topS 5
def B13 : PSt := (.cons (.ret (.and (.call 12 (.cons (.var 0) .nil)) (.chn .LtE .LtE (.var 1) (.var 0) (.var 2)))) .nil)
def N13 : List Str := ["thing", "least", "most"]
/-! 14: are_sizes; 0=thing 1=size -/
abbrev S14 : Stmt := topS 10
def B14 : PSt := (.cons (.ret (.and (.isi "tuple" (.var 0)) (.bi .all (.cons (.lc (.call 13 (.cons (.var 1) (.cons (.cst (.int 1)) (.cons (.var 1) .nil)))) (.one 1) (.itx (.var 0)) (.cst (.bl true)) [1]) .nil)))) .nil)
def N14 : List Str := ["thing", "size"]
/-! 15: is_rising; 0=some 1=one 2=other -/
abbrev S15 : Stmt := topS 8
def B15 : PSt := (.cons (.ret (.bi .all (.cons (.lc (.cmp .Lt (.var 1) (.var 2)) (.many [1, 2]) (.zip (.var 0) (.slc (.var 0) (.cst (.int 1)) (.cst .non))) (.cst (.bl true)) [1, 2]) .nil))) .nil)
def N15 : List Str := ["some", "one", "other"]
/-! 16: are_between; 0=thing 1=least 2=most 3=part -/
abbrev S16 : Stmt := topS 6
def B16 : PSt := (.cons (.ret (.and (.isi "tuple" (.var 0)) (.bi .all (.cons (.lc (.call 13 (.cons (.var 3) (.cons (.var 1) (.cons (.var 2) .nil)))) (.one 3) (.itx (.var 0)) (.cst (.bl true)) [3]) .nil)))) .nil)
def N16 : List Str := ["thing", "least", "most", "part"]
/-! 17: is_term; 0=sizes 1=thing 2=size -/
abbrev S17 : Stmt := topS 11
def B17 : PSt := (.cons (.ite (.or (.not (.call 11 (.cons (.var 1) (.cons (.cst (.int 2)) .nil)))) (.not (.call 13 (.cons (.sub (.var 1) (.cst (.int 0))) (.cons (.cst (.int 0)) (.cons (.bin .Sub (.bi .len (.cons (.var 0) .nil)) (.cst (.int 1))) .nil)))))) (.cons (.ret (.cst (.bl false))) .nil) .nil) (.cons (.asg (.one 2) (.sub (.var 0) (.sub (.var 1) (.cst (.int 0))))) (.cons (.ret (.and (.call 16 (.cons (.sub (.var 1) (.cst (.int 1))) (.cons (.cst (.int 0)) (.cons (.bin .Sub (.var 2) (.cst (.int 1))) .nil)))) (.and (.call 15 (.cons (.sub (.var 1) (.cst (.int 1))) .nil)) (.chn .LtE .Lt (.cst (.int 1)) (.bi .len (.cons (.sub (.var 1) (.cst (.int 1))) .nil)) (.var 2))))) .nil)))
def N17 : List Str := ["sizes", "thing", "size"]
/-! 18: is_bar_value; 0=sizes 1=thing 2=term -/
abbrev S18 : Stmt := topS 12
def B18 : PSt := (.cons (.ite (.or (.not (.isi "tuple" (.var 1))) (.not (.bi .all (.cons (.lc (.call 17 (.cons (.var 0) (.cons (.var 2) .nil))) (.one 2) (.itx (.var 1)) (.cst (.bl true)) [2]) .nil)))) (.cons (.ret (.cst (.bl false))) .nil) .nil) (.cons (.ret (.call 15 (.cons (.lc (.sub (.var 2) (.cst (.int 0))) (.one 2) (.itx (.var 1)) (.cst (.bl true)) [2]) .nil))) .nil))
def N18 : List Str := ["sizes", "thing", "term"]
/-! 19: is_problem_value; 0=thing 1=bar -/
abbrev S19 : Stmt := topS 13
def B19 : PSt := (.cons (.ite (.or (.not (.call 11 (.cons (.var 0) (.cons (.cst (.int 2)) .nil)))) (.or (.not (.call 14 (.cons (.sub (.var 0) (.cst (.int 0))) .nil))) (.not (.isi "tuple" (.sub (.var 0) (.cst (.int 1))))))) (.cons (.ret (.cst (.bl false))) .nil) .nil) (.cons (.ret (.bi .all (.cons (.lc (.call 18 (.cons (.sub (.var 0) (.cst (.int 0))) (.cons (.var 1) .nil))) (.one 1) (.itx (.sub (.var 0) (.cst (.int 1)))) (.cst (.bl true)) [1]) .nil))) .nil))
def N19 : List Str := ["thing", "bar"]
/-! 20: is_problem; 0=thing -/
abbrev S20 : Stmt := topS 17
def B20 : PSt := (.cons (.ret (.call 19 (.cons (.var 0) .nil))) .nil)
def N20 : List Str := ["thing"]
/-! 21: is_bar; 0=sizes 1=thing -/
abbrev S21 : Stmt := topS 18
def B21 : PSt := (.cons (.ite (.not (.call 14 (.cons (.var 0) .nil))) .nev .nil) (.cons (.ret (.call 18 (.cons (.var 0) (.cons (.var 1) .nil)))) .nil))
def N21 : List Str := ["sizes", "thing"]
/-! 22: need_problem; 0=problem -/
abbrev S22 : Stmt := topS 14
def B22 : PSt := (.cons (.ite (.not (.call 19 (.cons (.var 0) .nil))) .nev .nil) .nil)
def N22 : List Str := ["problem"]
/-! 23: is_choice_value; 0=sizes 1=thing 2=state 3=size -/
abbrev S23 : Stmt := topS 15
def B23 : PSt := (.cons (.ret (.and (.call 11 (.cons (.var 1) (.cons (.bi .len (.cons (.var 0) .nil)) .nil))) (.bi .all (.cons (.lc (.call 13 (.cons (.var 2) (.cons (.cst (.int 0)) (.cons (.bin .Sub (.var 3) (.cst (.int 1))) .nil)))) (.many [2, 3]) (.zip (.var 1) (.var 0)) (.cst (.bl true)) [2, 3]) .nil)))) .nil)
def N23 : List Str := ["sizes", "thing", "state", "size"]
/-! 24: is_choice_of; 0=problem 1=thing -/
abbrev S24 : Stmt := topS 19
def B24 : PSt := (.cons (.exp (.call 22 (.cons (.var 0) .nil))) (.cons (.ret (.call 23 (.cons (.sub (.var 0) (.cst (.int 0))) (.cons (.var 1) .nil)))) .nil))
def N24 : List Str := ["problem", "thing"]
/-! 25: _law_is_number; 0=_law_thing -/
abbrev S25 : Stmt := topS 29
def B25 : PSt := (.cons (.ret (.and (.isi "int" (.var 0)) (.and (.not (.isi "bool" (.var 0))) (.cmp .GtE (.var 0) (.cst (.int 0)))))) .nil)
def N25 : List Str := ["_law_thing"]
/-! 26: _law_are_sizes; 0=_law_thing 1=_law_size -/
abbrev S26 : Stmt := topS 31
def B26 : PSt := (.cons (.ret (.and (.isi "tuple" (.var 0)) (.nile false (.lc (.var 1) (.one 1) (.itx (.var 0)) (.or (.not (.call 25 (.cons (.var 1) .nil))) (.cmp .Eq (.var 1) (.cst (.int 0)))) [1])))) .nil)
def N26 : List Str := ["_law_thing", "_law_size"]
/-! 27: _law_is_bar; 0=_law_sizes_here 1=_law_thing 2=_law_term_here 3=_law_one 4=_law_other 5=_law_state -/
abbrev S27 : Stmt := topS 30
def B27 : PSt := (.cons (.ite (.not (.isi "tuple" (.var 1))) (.cons (.ret (.cst (.bl false))) .nil) .nil) (.cons (.for_ (.one 2) (.itx (.var 1)) (.cons (.ite (.or (.not (.isi "tuple" (.var 2))) (.or (.cmp .NotEq (.bi .len (.cons (.var 2) .nil)) (.cst (.int 2))) (.or (.not (.call 25 (.cons (.sub (.var 2) (.cst (.int 0))) .nil))) (.cmp .GtE (.sub (.var 2) (.cst (.int 0))) (.bi .len (.cons (.var 0) .nil)))))) (.cons (.ret (.cst (.bl false))) .nil) .nil) (.cons (.ite (.or (.not (.isi "tuple" (.sub (.var 2) (.cst (.int 1))))) (.nile true (.lc (.var 5) (.one 5) (.itx (.sub (.var 2) (.cst (.int 1)))) (.or (.not (.call 25 (.cons (.var 5) .nil))) (.cmp .GtE (.var 5) (.sub (.var 0) (.sub (.var 2) (.cst (.int 0)))))) [5]))) (.cons (.ret (.cst (.bl false))) .nil) .nil) (.cons (.ite (.or (.cmp .NotEq (.bi .list (.cons (.sub (.var 2) (.cst (.int 1))) .nil)) (.sst (.sub (.var 2) (.cst (.int 1))))) (.not (.chn .Lt .Lt (.cst (.int 0)) (.bi .len (.cons (.sub (.var 2) (.cst (.int 1))) .nil)) (.sub (.var 0) (.sub (.var 2) (.cst (.int 0))))))) (.cons (.ret (.cst (.bl false))) .nil) .nil) .nil)))) (.cons (.ret (.nile false (.lc (.cst (.int 1)) (.many [3, 4]) (.zip (.var 1) (.slc (.var 1) (.cst (.int 1)) (.cst .non))) (.cmp .GtE (.sub (.var 3) (.cst (.int 0))) (.sub (.var 4) (.cst (.int 0)))) [3, 4]))) .nil)))
def N27 : List Str := ["_law_sizes_here", "_law_thing", "_law_term_here", "_law_one", "_law_other", "_law_state"]
/-! 28: _law_is_problem; 0=_law_thing 1=_law_bar -/
abbrev S28 : Stmt := topS 32
def B28 : PSt := (.cons (.ite (.or (.not (.isi "tuple" (.var 0))) (.or (.cmp .NotEq (.bi .len (.cons (.var 0) .nil)) (.cst (.int 2))) (.or (.not (.call 26 (.cons (.sub (.var 0) (.cst (.int 0))) .nil))) (.not (.isi "tuple" (.sub (.var 0) (.cst (.int 1)))))))) (.cons (.ret (.cst (.bl false))) .nil) .nil) (.cons (.ret (.nile false (.lc (.var 1) (.one 1) (.itx (.sub (.var 0) (.cst (.int 1)))) (.not (.call 27 (.cons (.sub (.var 0) (.cst (.int 0))) (.cons (.var 1) .nil)))) [1]))) .nil))
def N28 : List Str := ["_law_thing", "_law_bar"]
/-! 29: _law_is_choice; 0=_law_sizes_here 1=_law_thing 2=_law_state 3=_law_size -/
abbrev S29 : Stmt := topS 33
def B29 : PSt := (.cons (.ite (.or (.not (.isi "tuple" (.var 1))) (.cmp .NotEq (.bi .len (.cons (.var 1) .nil)) (.bi .len (.cons (.var 0) .nil)))) (.cons (.ret (.cst (.bl false))) .nil) .nil) (.cons (.ret (.nile false (.lc (.cst (.int 1)) (.many [2, 3]) (.zip (.var 1) (.var 0)) (.or (.not (.call 25 (.cons (.var 2) .nil))) (.cmp .GtE (.var 2) (.var 3))) [2, 3]))) .nil))
def N29 : List Str := ["_law_sizes_here", "_law_thing", "_law_state", "_law_size"]
/-! 30: law; 0=_law_script 1=_law_deck_here 2=_law_turn 3=_law_problem_here 4=_law_sizes_here 5=_law_go 6=_law_thing 7=_law_got 8=_law_bar 9=_law_choice 10=_law_size -/
abbrev S30 : Stmt := topS 37
def B30 : PSt := (.cons (.asg (.one 1) (.call 0 (.cons (.var 0) .nil))) (.cons (.for_ (.one 2) (.rng (.cst (.int 0)) (.cst (.int 6))) (.cons (.asg (.one 3) (.call 7 (.cons (.var 1) (.cons (.cst (.int 300)) (.cons (.cst (.int 6)) .nil))))) (.cons (.asg (.one 4) (.sub (.var 3) (.cst (.int 0)))) (.cons (.for_ (.one 5) (.rng (.cst (.int 0)) (.cst (.int 4))) (.cons (.asg (.one 6) (.ite (.cmp .Gt (.var 5) (.cst (.int 0))) (.call 9 (.cons (.var 1) (.cons (.var 3) .nil))) (.var 3))) (.cons (.asg (.one 6) (.ite (.cmp .Eq (.var 5) (.cst (.int 1))) (.call 10 (.cons (.var 1) (.cons (.var 4) .nil))) (.var 6))) (.cons (.asg (.one 7) (.ite (.cmp .Eq (.bin .Mod (.bi .int (.cons (.var 5) .nil)) (.cst (.int 2))) (.cst (.int 0))) (.call 20 (.cons (.var 6) .nil)) (.callK 20 [0] (.cons (.var 6) .nil)))) (.cons (.ite (.cmp .NotEq (.bi .repr (.cons (.var 7) .nil)) (.bi .repr (.cons (.call 28 (.cons (.var 6) .nil)) .nil))) (.cons (.ret (.cst (.bl false))) .nil) .nil) (.cons (.asg (.one 8) (.call 6 (.cons (.var 1) (.cons (.var 4) (.cons (.cst (.int 6)) .nil))))) (.cons (.asg (.one 8) (.ite (.cmp .Gt (.call 1 (.cons (.var 1) (.cons (.cst (.int 3)) .nil))) (.cst (.int 0))) (.call 9 (.cons (.var 1) (.cons (.var 8) .nil))) (.var 8))) (.cons (.asg (.one 7) (.ite (.cmp .Eq (.bin .Mod (.bi .int (.cons (.var 5) .nil)) (.cst (.int 2))) (.cst (.int 0))) (.call 21 (.cons (.var 4) (.cons (.var 8) .nil))) (.callK 21 [1, 0] (.cons (.var 8) (.cons (.var 4) .nil))))) (.cons (.ite (.cmp .NotEq (.bi .repr (.cons (.var 7) .nil)) (.bi .repr (.cons (.call 27 (.cons (.var 4) (.cons (.var 8) .nil))) .nil))) (.cons (.ret (.cst (.bl false))) .nil) .nil) (.cons (.asg (.one 9) (.bi .tuple (.cons (.lc (.call 1 (.cons (.var 1) (.cons (.bin .Add (.var 10) (.bi .int (.cons (.cmp .Eq (.call 1 (.cons (.var 1) (.cons (.cst (.int 9)) .nil))) (.cst (.int 0))) .nil))) .nil))) (.one 10) (.itx (.var 4)) (.cst (.bl true)) [10]) .nil))) (.cons (.asg (.one 9) (.ite (.cmp .Eq (.call 1 (.cons (.var 1) (.cons (.cst (.int 2)) .nil))) (.cst (.int 0))) (.call 9 (.cons (.var 1) (.cons (.var 9) .nil))) (.var 9))) (.cons (.asg (.one 7) (.ite (.cmp .Eq (.bin .Mod (.bi .int (.cons (.var 5) .nil)) (.cst (.int 2))) (.cst (.int 0))) (.call 24 (.cons (.var 3) (.cons (.var 9) .nil))) (.callK 24 [1, 0] (.cons (.var 9) (.cons (.var 3) .nil))))) (.cons (.ite (.cmp .NotEq (.bi .repr (.cons (.var 7) .nil)) (.bi .repr (.cons (.call 29 (.cons (.var 4) (.cons (.var 9) .nil))) .nil))) (.cons (.ret (.cst (.bl false))) .nil) .nil) .nil))))))))))))) .nil)))) (.cons (.ret (.cst (.bl true))) .nil)))
def N30 : List Str := ["_law_script", "_law_deck_here", "_law_turn", "_law_problem_here", "_law_sizes_here", "_law_go", "_law_thing", "_law_got", "_law_bar", "_law_choice", "_law_size"]
def fn0 : List Str := []
def kw0 : List (Nat × List Str × List Nat) := []
def T0 : List FnS := []
def F0 : FnS := wpF T0 gloD 1 2 B0
def fn1 : List Str := ["_law_deck"]
def kw1 : List (Nat × List Str × List Nat) := []
def T1 : List FnS := [F0]
def F1 : FnS := wpF T1 gloD 2 2 B1
def fn2 : List Str := ["_law_deck", "_law_draw"]
def kw2 : List (Nat × List Str × List Nat) := []
def T2 : List FnS := [F0, F1]
def F2 : FnS := wpF T2 gloD 2 0 B2
def fn3 : List Str := ["_law_deck", "_law_draw", "_law_pick"]
def kw3 : List (Nat × List Str × List Nat) := []
def T3 : List FnS := [F0, F1, F2]
def F3 : FnS := wpF T3 gloD 3 4 B3
def fn4 : List Str := ["_law_deck", "_law_draw", "_law_pick", "_law_sizes"]
def kw4 : List (Nat × List Str × List Nat) := []
def T4 : List FnS := [F0, F1, F2, F3]
def F4 : FnS := wpF T4 gloD 2 2 B4
def fn5 : List Str := ["_law_deck", "_law_draw", "_law_pick", "_law_sizes", "_law_shuffled"]
def kw5 : List (Nat × List Str × List Nat) := []
def T5 : List FnS := [F0, F1, F2, F3, F4]
def F5 : FnS := wpF T5 gloD 3 1 B5
def fn6 : List Str := ["_law_deck", "_law_draw", "_law_pick", "_law_sizes", "_law_shuffled", "_law_term"]
def kw6 : List (Nat × List Str × List Nat) := []
def T6 : List FnS := [F0, F1, F2, F3, F4, F5]
def F6 : FnS := wpF T6 gloD 3 4 B6
def fn7 : List Str := ["_law_deck", "_law_draw", "_law_pick", "_law_sizes", "_law_shuffled", "_law_term", "_law_drawn_bar"]
def kw7 : List (Nat × List Str × List Nat) := []
def T7 : List FnS := [F0, F1, F2, F3, F4, F5, F6]
def F7 : FnS := wpF T7 gloD 3 4 B7
def fn8 : List Str := ["_law_deck", "_law_draw", "_law_pick", "_law_sizes", "_law_shuffled", "_law_term", "_law_drawn_bar", "_law_problem"]
def kw8 : List (Nat × List Str × List Nat) := []
def T8 : List FnS := [F0, F1, F2, F3, F4, F5, F6, F7]
def F8 : FnS := wpF T8 gloD 2 1 B8
def fn9 : List Str := ["_law_deck", "_law_draw", "_law_pick", "_law_sizes", "_law_shuffled", "_law_term", "_law_drawn_bar", "_law_problem", "_law_odd"]
def kw9 : List (Nat × List Str × List Nat) := []
def T9 : List FnS := [F0, F1, F2, F3, F4, F5, F6, F7, F8]
def kwq9 : List (List Str × List Nat) := []
def F9 : FnS := recF T9 gloD 2 1 B9 24
def fn10 : List Str := ["_law_deck", "_law_draw", "_law_pick", "_law_sizes", "_law_shuffled", "_law_term", "_law_drawn_bar", "_law_problem", "_law_odd", "_law_bent"]
def kw10 : List (Nat × List Str × List Nat) := []
def T10 : List FnS := [F0, F1, F2, F3, F4, F5, F6, F7, F8, F9]
def F10 : FnS := wpF T10 gloD 2 5 B10
def fn11 : List Str := ["_law_deck", "_law_draw", "_law_pick", "_law_sizes", "_law_shuffled", "_law_term", "_law_drawn_bar", "_law_problem", "_law_odd", "_law_bent", "_law_great"]
def kw11 : List (Nat × List Str × List Nat) := []
def T11 : List FnS := [F0, F1, F2, F3, F4, F5, F6, F7, F8, F9, F10]
def F11 : FnS := wpF T11 gloD 2 0 B11
def fn12 : List Str := ["_law_deck", "_law_draw", "_law_pick", "_law_sizes", "_law_shuffled", "_law_term", "_law_drawn_bar", "_law_problem", "_law_odd", "_law_bent", "_law_great", "is_row"]
def kw12 : List (Nat × List Str × List Nat) := []
def T12 : List FnS := [F0, F1, F2, F3, F4, F5, F6, F7, F8, F9, F10, F11]
def F12 : FnS := wpF T12 gloD 1 0 B12
def fn13 : List Str := ["_law_deck", "_law_draw", "_law_pick", "_law_sizes", "_law_shuffled", "_law_term", "_law_drawn_bar", "_law_problem", "_law_odd", "_law_bent", "_law_great", "is_row", "is_integer"]
def kw13 : List (Nat × List Str × List Nat) := []
def T13 : List FnS := [F0, F1, F2, F3, F4, F5, F6, F7, F8, F9, F10, F11, F12]
def F13 : FnS := wpF T13 gloD 3 0 B13
def fn14 : List Str := ["_law_deck", "_law_draw", "_law_pick", "_law_sizes", "_law_shuffled", "_law_term", "_law_drawn_bar", "_law_problem", "_law_odd", "_law_bent", "_law_great", "is_row", "is_integer", "is_between"]
def kw14 : List (Nat × List Str × List Nat) := []
def T14 : List FnS := [F0, F1, F2, F3, F4, F5, F6, F7, F8, F9, F10, F11, F12, F13]
def F14 : FnS := wpF T14 gloD 1 1 B14
def fn15 : List Str := ["_law_deck", "_law_draw", "_law_pick", "_law_sizes", "_law_shuffled", "_law_term", "_law_drawn_bar", "_law_problem", "_law_odd", "_law_bent", "_law_great", "is_row", "is_integer", "is_between", "are_sizes"]
def kw15 : List (Nat × List Str × List Nat) := []
def T15 : List FnS := [F0, F1, F2, F3, F4, F5, F6, F7, F8, F9, F10, F11, F12, F13, F14]
def F15 : FnS := wpF T15 gloD 1 2 B15
def fn16 : List Str := ["_law_deck", "_law_draw", "_law_pick", "_law_sizes", "_law_shuffled", "_law_term", "_law_drawn_bar", "_law_problem", "_law_odd", "_law_bent", "_law_great", "is_row", "is_integer", "is_between", "are_sizes", "is_rising"]
def kw16 : List (Nat × List Str × List Nat) := []
def T16 : List FnS := [F0, F1, F2, F3, F4, F5, F6, F7, F8, F9, F10, F11, F12, F13, F14, F15]
def F16 : FnS := wpF T16 gloD 3 1 B16
def fn17 : List Str := ["_law_deck", "_law_draw", "_law_pick", "_law_sizes", "_law_shuffled", "_law_term", "_law_drawn_bar", "_law_problem", "_law_odd", "_law_bent", "_law_great", "is_row", "is_integer", "is_between", "are_sizes", "is_rising", "are_between"]
def kw17 : List (Nat × List Str × List Nat) := []
def T17 : List FnS := [F0, F1, F2, F3, F4, F5, F6, F7, F8, F9, F10, F11, F12, F13, F14, F15, F16]
def F17 : FnS := wpF T17 gloD 2 1 B17
def fn18 : List Str := ["_law_deck", "_law_draw", "_law_pick", "_law_sizes", "_law_shuffled", "_law_term", "_law_drawn_bar", "_law_problem", "_law_odd", "_law_bent", "_law_great", "is_row", "is_integer", "is_between", "are_sizes", "is_rising", "are_between", "is_term"]
def kw18 : List (Nat × List Str × List Nat) := []
def T18 : List FnS := [F0, F1, F2, F3, F4, F5, F6, F7, F8, F9, F10, F11, F12, F13, F14, F15, F16, F17]
def F18 : FnS := wpF T18 gloD 2 1 B18
def fn19 : List Str := ["_law_deck", "_law_draw", "_law_pick", "_law_sizes", "_law_shuffled", "_law_term", "_law_drawn_bar", "_law_problem", "_law_odd", "_law_bent", "_law_great", "is_row", "is_integer", "is_between", "are_sizes", "is_rising", "are_between", "is_term", "is_bar_value"]
def kw19 : List (Nat × List Str × List Nat) := []
def T19 : List FnS := [F0, F1, F2, F3, F4, F5, F6, F7, F8, F9, F10, F11, F12, F13, F14, F15, F16, F17, F18]
def F19 : FnS := wpF T19 gloD 1 1 B19
def fn20 : List Str := ["_law_deck", "_law_draw", "_law_pick", "_law_sizes", "_law_shuffled", "_law_term", "_law_drawn_bar", "_law_problem", "_law_odd", "_law_bent", "_law_great", "is_row", "is_integer", "is_between", "are_sizes", "is_rising", "are_between", "is_term", "is_bar_value", "is_problem_value"]
def kw20 : List (Nat × List Str × List Nat) := []
def T20 : List FnS := [F0, F1, F2, F3, F4, F5, F6, F7, F8, F9, F10, F11, F12, F13, F14, F15, F16, F17, F18, F19]
def F20 : FnS := wpF T20 gloD 1 0 B20
def fn21 : List Str := ["_law_deck", "_law_draw", "_law_pick", "_law_sizes", "_law_shuffled", "_law_term", "_law_drawn_bar", "_law_problem", "_law_odd", "_law_bent", "_law_great", "is_row", "is_integer", "is_between", "are_sizes", "is_rising", "are_between", "is_term", "is_bar_value", "is_problem_value", "is_problem"]
def kw21 : List (Nat × List Str × List Nat) := [(20, ["thing"], [0])]
def T21 : List FnS := [F0, F1, F2, F3, F4, F5, F6, F7, F8, F9, F10, F11, F12, F13, F14, F15, F16, F17, F18, F19, F20]
def F21 : FnS := wpF T21 gloD 2 0 B21
def fn22 : List Str := ["_law_deck", "_law_draw", "_law_pick", "_law_sizes", "_law_shuffled", "_law_term", "_law_drawn_bar", "_law_problem", "_law_odd", "_law_bent", "_law_great", "is_row", "is_integer", "is_between", "are_sizes", "is_rising", "are_between", "is_term", "is_bar_value", "is_problem_value", "is_problem", "is_bar"]
def kw22 : List (Nat × List Str × List Nat) := [(20, ["thing"], [0]), (21, ["thing", "sizes"], [1, 0])]
def T22 : List FnS := [F0, F1, F2, F3, F4, F5, F6, F7, F8, F9, F10, F11, F12, F13, F14, F15, F16, F17, F18, F19, F20, F21]
def F22 : FnS := wpF T22 gloD 1 0 B22
def fn23 : List Str := ["_law_deck", "_law_draw", "_law_pick", "_law_sizes", "_law_shuffled", "_law_term", "_law_drawn_bar", "_law_problem", "_law_odd", "_law_bent", "_law_great", "is_row", "is_integer", "is_between", "are_sizes", "is_rising", "are_between", "is_term", "is_bar_value", "is_problem_value", "is_problem", "is_bar", "need_problem"]
def kw23 : List (Nat × List Str × List Nat) := [(20, ["thing"], [0]), (21, ["thing", "sizes"], [1, 0])]
def T23 : List FnS := [F0, F1, F2, F3, F4, F5, F6, F7, F8, F9, F10, F11, F12, F13, F14, F15, F16, F17, F18, F19, F20, F21, F22]
def F23 : FnS := wpF T23 gloD 2 2 B23
def fn24 : List Str := ["_law_deck", "_law_draw", "_law_pick", "_law_sizes", "_law_shuffled", "_law_term", "_law_drawn_bar", "_law_problem", "_law_odd", "_law_bent", "_law_great", "is_row", "is_integer", "is_between", "are_sizes", "is_rising", "are_between", "is_term", "is_bar_value", "is_problem_value", "is_problem", "is_bar", "need_problem", "is_choice_value"]
def kw24 : List (Nat × List Str × List Nat) := [(20, ["thing"], [0]), (21, ["thing", "sizes"], [1, 0])]
def T24 : List FnS := [F0, F1, F2, F3, F4, F5, F6, F7, F8, F9, F10, F11, F12, F13, F14, F15, F16, F17, F18, F19, F20, F21, F22, F23]
def F24 : FnS := wpF T24 gloD 2 0 B24
def fn25 : List Str := ("_law_deck" :: "_law_draw" :: "_law_pick" :: "_law_sizes" :: "_law_shuffled" :: "_law_term" :: "_law_drawn_bar" :: "_law_problem" :: "_law_odd" :: "_law_bent" :: "_law_great" :: "is_row" :: "is_integer" :: "is_between" :: "are_sizes" :: "is_rising" :: "are_between" :: "is_term" :: "is_bar_value" :: "is_problem_value" :: "is_problem" :: "is_bar" :: "need_problem" :: "is_choice_value" :: "is_choice_of" :: [])
def kw25 : List (Nat × List Str × List Nat) := [(20, ["thing"], [0]), (21, ["thing", "sizes"], [1, 0]), (24, ["thing", "problem"], [1, 0])]
def T25 : List FnS := [F0, F1, F2, F3, F4, F5, F6, F7, F8, F9, F10, F11, F12, F13, F14, F15, F16, F17, F18, F19, F20, F21, F22, F23, F24]
def F25 : FnS := wpF T25 gloD 1 0 B25
def fn26 : List Str := ("_law_deck" :: "_law_draw" :: "_law_pick" :: "_law_sizes" :: "_law_shuffled" :: "_law_term" :: "_law_drawn_bar" :: "_law_problem" :: "_law_odd" :: "_law_bent" :: "_law_great" :: "is_row" :: "is_integer" :: "is_between" :: "are_sizes" :: "is_rising" :: "are_between" :: "is_term" :: "is_bar_value" :: "is_problem_value" :: "is_problem" :: "is_bar" :: "need_problem" :: "is_choice_value" :: "is_choice_of" :: "_law_is_number" :: [])
def kw26 : List (Nat × List Str × List Nat) := [(20, ["thing"], [0]), (21, ["thing", "sizes"], [1, 0]), (24, ["thing", "problem"], [1, 0])]
def T26 : List FnS := [F0, F1, F2, F3, F4, F5, F6, F7, F8, F9, F10, F11, F12, F13, F14, F15, F16, F17, F18, F19, F20, F21, F22, F23, F24, F25]
def F26 : FnS := wpF T26 gloD 1 1 B26
def fn27 : List Str := ("_law_deck" :: "_law_draw" :: "_law_pick" :: "_law_sizes" :: "_law_shuffled" :: "_law_term" :: "_law_drawn_bar" :: "_law_problem" :: "_law_odd" :: "_law_bent" :: "_law_great" :: "is_row" :: "is_integer" :: "is_between" :: "are_sizes" :: "is_rising" :: "are_between" :: "is_term" :: "is_bar_value" :: "is_problem_value" :: "is_problem" :: "is_bar" :: "need_problem" :: "is_choice_value" :: "is_choice_of" :: "_law_is_number" :: "_law_are_sizes" :: [])
def kw27 : List (Nat × List Str × List Nat) := [(20, ["thing"], [0]), (21, ["thing", "sizes"], [1, 0]), (24, ["thing", "problem"], [1, 0])]
def T27 : List FnS := [F0, F1, F2, F3, F4, F5, F6, F7, F8, F9, F10, F11, F12, F13, F14, F15, F16, F17, F18, F19, F20, F21, F22, F23, F24, F25, F26]
def F27 : FnS := wpF T27 gloD 2 4 B27
def fn28 : List Str := ("_law_deck" :: "_law_draw" :: "_law_pick" :: "_law_sizes" :: "_law_shuffled" :: "_law_term" :: "_law_drawn_bar" :: "_law_problem" :: "_law_odd" :: "_law_bent" :: "_law_great" :: "is_row" :: "is_integer" :: "is_between" :: "are_sizes" :: "is_rising" :: "are_between" :: "is_term" :: "is_bar_value" :: "is_problem_value" :: "is_problem" :: "is_bar" :: "need_problem" :: "is_choice_value" :: "is_choice_of" :: "_law_is_number" :: "_law_are_sizes" :: "_law_is_bar" :: [])
def kw28 : List (Nat × List Str × List Nat) := [(20, ["thing"], [0]), (21, ["thing", "sizes"], [1, 0]), (24, ["thing", "problem"], [1, 0])]
def T28 : List FnS := [F0, F1, F2, F3, F4, F5, F6, F7, F8, F9, F10, F11, F12, F13, F14, F15, F16, F17, F18, F19, F20, F21, F22, F23, F24, F25, F26, F27]
def F28 : FnS := wpF T28 gloD 1 1 B28
def fn29 : List Str := ("_law_deck" :: "_law_draw" :: "_law_pick" :: "_law_sizes" :: "_law_shuffled" :: "_law_term" :: "_law_drawn_bar" :: "_law_problem" :: "_law_odd" :: "_law_bent" :: "_law_great" :: "is_row" :: "is_integer" :: "is_between" :: "are_sizes" :: "is_rising" :: "are_between" :: "is_term" :: "is_bar_value" :: "is_problem_value" :: "is_problem" :: "is_bar" :: "need_problem" :: "is_choice_value" :: "is_choice_of" :: "_law_is_number" :: "_law_are_sizes" :: "_law_is_bar" :: "_law_is_problem" :: [])
def kw29 : List (Nat × List Str × List Nat) := [(20, ["thing"], [0]), (21, ["thing", "sizes"], [1, 0]), (24, ["thing", "problem"], [1, 0])]
def T29 : List FnS := [F0, F1, F2, F3, F4, F5, F6, F7, F8, F9, F10, F11, F12, F13, F14, F15, F16, F17, F18, F19, F20, F21, F22, F23, F24, F25, F26, F27, F28]
def F29 : FnS := wpF T29 gloD 2 2 B29
def fn30 : List Str := ("_law_deck" :: "_law_draw" :: "_law_pick" :: "_law_sizes" :: "_law_shuffled" :: "_law_term" :: "_law_drawn_bar" :: "_law_problem" :: "_law_odd" :: "_law_bent" :: "_law_great" :: "is_row" :: "is_integer" :: "is_between" :: "are_sizes" :: "is_rising" :: "are_between" :: "is_term" :: "is_bar_value" :: "is_problem_value" :: "is_problem" :: "is_bar" :: "need_problem" :: "is_choice_value" :: "is_choice_of" :: "_law_is_number" :: "_law_are_sizes" :: "_law_is_bar" :: "_law_is_problem" :: "_law_is_choice" :: [])
def kw30 : List (Nat × List Str × List Nat) := [(20, ["thing"], [0]), (21, ["thing", "sizes"], [1, 0]), (24, ["thing", "problem"], [1, 0])]
def T30 : List FnS := [F0, F1, F2, F3, F4, F5, F6, F7, F8, F9, F10, F11, F12, F13, F14, F15, F16, F17, F18, F19, F20, F21, F22, F23, F24, F25, F26, F27, F28, F29]
def F30 : FnS := wpF T30 gloD 1 10 B30
section
variable {P : Program} {w : World} {K : W.Frag} {mg : Str → Option Value} {base : Heap}
theorem ch0 : chSs ⟨N0, fn0, gloN, kw0⟩ B0 ⟨(defScope S0).names, (defScope S0).names⟩ (defBody S0) = true := by decide +kernel
theorem sc0 : FnScope N0 ["_law_script"] (defScope S0) := ⟨rfl, rfl, rfl, by decide +kernel, by decide +kernel, by decide +kernel, by decide +kernel⟩
theorem ok0 {f : Addr} {fd : FuncData} (fn : Fun K "_law_deck" "_law_deck" S0 f fd) (fx : Fx P w K mg base 0 ⟨N0, fn0, gloN, kw0⟩ T0 gloD) : FnG P w K mg base 1 f fd ["_law_script"] F0 := fnG_of (np := 1) (nl := 2) fn sc0 fx rfl rfl ch0
theorem ch1 : chSs ⟨N1, fn1, gloN, kw1⟩ B1 ⟨(defScope S1).names, (defScope S1).names⟩ (defBody S1) = true := by decide +kernel
theorem sc1 : FnScope N1 ["_law_deck_here", "_law_below"] (defScope S1) := ⟨rfl, rfl, rfl, by decide +kernel, by decide +kernel, by decide +kernel, by decide +kernel⟩
theorem ok1 {f : Addr} {fd : FuncData} (fn : Fun K "_law_draw" "_law_draw" S1 f fd) (fx : Fx P w K mg base 1 ⟨N1, fn1, gloN, kw1⟩ T1 gloD) : FnG P w K mg base 2 f fd ["_law_deck_here", "_law_below"] F1 := fnG_of (np := 2) (nl := 2) fn sc1 fx rfl rfl ch1
theorem ch2 : chSs ⟨N2, fn2, gloN, kw2⟩ B2 ⟨(defScope S2).names, (defScope S2).names⟩ (defBody S2) = true := by decide +kernel
theorem sc2 : FnScope N2 ["_law_deck_here", "_law_some"] (defScope S2) := ⟨rfl, rfl, rfl, by decide +kernel, by decide +kernel, by decide +kernel, by decide +kernel⟩
theorem ok2 {f : Addr} {fd : FuncData} (fn : Fun K "_law_pick" "_law_pick" S2 f fd) (fx : Fx P w K mg base 2 ⟨N2, fn2, gloN, kw2⟩ T2 gloD) : FnG P w K mg base 3 f fd ["_law_deck_here", "_law_some"] F2 := fnG_of (np := 2) (nl := 0) fn sc2 fx rfl rfl ch2
theorem ch3 : chSs ⟨N3, fn3, gloN, kw3⟩ B3 ⟨(defScope S3).names, (defScope S3).names⟩ (defBody S3) = true := by decide +kernel
theorem sc3 : FnScope N3 ["_law_deck_here", "_law_most", "_law_many"] (defScope S3) := ⟨rfl, rfl, rfl, by decide +kernel, by decide +kernel, by decide +kernel, by decide +kernel⟩
theorem ok3 {f : Addr} {fd : FuncData} (fn : Fun K "_law_sizes" "_law_sizes" S3 f fd) (fx : Fx P w K mg base 3 ⟨N3, fn3, gloN, kw3⟩ T3 gloD) : FnG P w K mg base 4 f fd ["_law_deck_here", "_law_most", "_law_many"] F3 := fnG_of (np := 3) (nl := 4) fn sc3 fx rfl rfl ch3
theorem ch4 : chSs ⟨N4, fn4, gloN, kw4⟩ B4 ⟨(defScope S4).names, (defScope S4).names⟩ (defBody S4) = true := by decide +kernel
theorem sc4 : FnScope N4 ["_law_deck_here", "_law_some"] (defScope S4) := ⟨rfl, rfl, rfl, by decide +kernel, by decide +kernel, by decide +kernel, by decide +kernel⟩
theorem ok4 {f : Addr} {fd : FuncData} (fn : Fun K "_law_shuffled" "_law_shuffled" S4 f fd) (fx : Fx P w K mg base 4 ⟨N4, fn4, gloN, kw4⟩ T4 gloD) : FnG P w K mg base 5 f fd ["_law_deck_here", "_law_some"] F4 := fnG_of (np := 2) (nl := 2) fn sc4 fx rfl rfl ch4
theorem ch5 : chSs ⟨N5, fn5, gloN, kw5⟩ B5 ⟨(defScope S5).names, (defScope S5).names⟩ (defBody S5) = true := by decide +kernel
theorem sc5 : FnScope N5 ["_law_deck_here", "_law_i", "_law_size"] (defScope S5) := ⟨rfl, rfl, rfl, by decide +kernel, by decide +kernel, by decide +kernel, by decide +kernel⟩
theorem ok5 {f : Addr} {fd : FuncData} (fn : Fun K "_law_term" "_law_term" S5 f fd) (fx : Fx P w K mg base 5 ⟨N5, fn5, gloN, kw5⟩ T5 gloD) : FnG P w K mg base 6 f fd ["_law_deck_here", "_law_i", "_law_size"] F5 := fnG_of (np := 3) (nl := 1) fn sc5 fx rfl rfl ch5
theorem ch6 : chSs ⟨N6, fn6, gloN, kw6⟩ B6 ⟨(defScope S6).names, (defScope S6).names⟩ (defBody S6) = true := by decide +kernel
theorem sc6 : FnScope N6 ["_law_deck_here", "_law_sizes_here", "_law_most"] (defScope S6) := ⟨rfl, rfl, rfl, by decide +kernel, by decide +kernel, by decide +kernel, by decide +kernel⟩
theorem ok6 {f : Addr} {fd : FuncData} (fn : Fun K "_law_drawn_bar" "_law_drawn_bar" S6 f fd) (fx : Fx P w K mg base 6 ⟨N6, fn6, gloN, kw6⟩ T6 gloD) : FnG P w K mg base 7 f fd ["_law_deck_here", "_law_sizes_here", "_law_most"] F6 := fnG_of (np := 3) (nl := 4) fn sc6 fx rfl rfl ch6
theorem ch7 : chSs ⟨N7, fn7, gloN, kw7⟩ B7 ⟨(defScope S7).names, (defScope S7).names⟩ (defBody S7) = true := by decide +kernel
theorem sc7 : FnScope N7 ["_law_deck_here", "_law_most", "_law_many"] (defScope S7) := ⟨rfl, rfl, rfl, by decide +kernel, by decide +kernel, by decide +kernel, by decide +kernel⟩
theorem ok7 {f : Addr} {fd : FuncData} (fn : Fun K "_law_problem" "_law_problem" S7 f fd) (fx : Fx P w K mg base 7 ⟨N7, fn7, gloN, kw7⟩ T7 gloD) : FnG P w K mg base 8 f fd ["_law_deck_here", "_law_most", "_law_many"] F7 := fnG_of (np := 3) (nl := 4) fn sc7 fx rfl rfl ch7
theorem ch8 : chSs ⟨N8, fn8, gloN, kw8⟩ B8 ⟨(defScope S8).names, (defScope S8).names⟩ (defBody S8) = true := by decide +kernel
theorem sc8 : FnScope N8 ["_law_deck_here", "_law_it"] (defScope S8) := ⟨rfl, rfl, rfl, by decide +kernel, by decide +kernel, by decide +kernel, by decide +kernel⟩
theorem ok8 {f : Addr} {fd : FuncData} (fn : Fun K "_law_odd" "_law_odd" S8 f fd) (fx : Fx P w K mg base 8 ⟨N8, fn8, gloN, kw8⟩ T8 gloD) : FnG P w K mg base 9 f fd ["_law_deck_here", "_law_it"] F8 := fnG_of (np := 2) (nl := 1) fn sc8 fx rfl rfl ch8
theorem ch9 : chSs ⟨N9, fn9 ++ (["_law_bent"] : List Str), gloN, kw9 ++ kwq9.map fun q => (fn9.length, q.1, q.2)⟩ B9 ⟨(defScope S9).names, (defScope S9).names⟩ (defBody S9) = true := by decide +kernel
theorem sc9 : FnScope N9 ["_law_deck_here", "_law_it"] (defScope S9) := ⟨rfl, rfl, rfl, by decide +kernel, by decide +kernel, by decide +kernel, by decide +kernel⟩
theorem ok9 {f : Addr} {fd : FuncData} (fn : Fun K "_law_bent" "_law_bent" S9 f fd) (fx : Fx P w K mg base 9 ⟨N9, fn9, gloN, kw9⟩ T9 gloD) (hm : mg "_law_bent" = some (.ref f)) (hi : W.keepIn K (.ref f) = true) (hb : Binds K fd ["_law_deck_here", "_law_it"] []) (hkw : ∀ q ∈ kwq9, KwB K fd ["_law_deck_here", "_law_it"] q.1 q.2) : FnG P w K mg base 33 f fd ["_law_deck_here", "_law_it"] F9 := rec_ok (np := 2) (nl := 1) fn sc9 fx rfl rfl rfl (by decide +kernel) ch9 hm hi hb hkw 24
theorem ch10 : chSs ⟨N10, fn10, gloN, kw10⟩ B10 ⟨(defScope S10).names, (defScope S10).names⟩ (defBody S10) = true := by decide +kernel
theorem sc10 : FnScope N10 ["_law_deck_here", "_law_sizes_here"] (defScope S10) := ⟨rfl, rfl, rfl, by decide +kernel, by decide +kernel, by decide +kernel, by decide +kernel⟩
theorem ok10 {f : Addr} {fd : FuncData} (fn : Fun K "_law_great" "_law_great" S10 f fd) (fx : Fx P w K mg base 33 ⟨N10, fn10, gloN, kw10⟩ T10 gloD) : FnG P w K mg base 34 f fd ["_law_deck_here", "_law_sizes_here"] F10 := fnG_of (np := 2) (nl := 5) fn sc10 fx rfl rfl ch10
theorem ch11 : chSs ⟨N11, fn11, gloN, kw11⟩ B11 ⟨(defScope S11).names, (defScope S11).names⟩ (defBody S11) = true := by decide +kernel
theorem sc11 : FnScope N11 ["thing", "many"] (defScope S11) := ⟨rfl, rfl, rfl, by decide +kernel, by decide +kernel, by decide +kernel, by decide +kernel⟩
theorem ok11 {f : Addr} {fd : FuncData} (fn : Fun K "is_row" "is_row" S11 f fd) (fx : Fx P w K mg base 34 ⟨N11, fn11, gloN, kw11⟩ T11 gloD) : FnG P w K mg base 35 f fd ["thing", "many"] F11 := fnG_of (np := 2) (nl := 0) fn sc11 fx rfl rfl ch11
theorem ch12 : chSs ⟨N12, fn12, gloN, kw12⟩ B12 ⟨(defScope S12).names, (defScope S12).names⟩ (defBody S12) = true := by decide +kernel
theorem sc12 : FnScope N12 ["thing"] (defScope S12) := ⟨rfl, rfl, rfl, by decide +kernel, by decide +kernel, by decide +kernel, by decide +kernel⟩
theorem ok12 {f : Addr} {fd : FuncData} (fn : Fun K "is_integer" "is_integer" S12 f fd) (fx : Fx P w K mg base 35 ⟨N12, fn12, gloN, kw12⟩ T12 gloD) : FnG P w K mg base 36 f fd ["thing"] F12 := fnG_of (np := 1) (nl := 0) fn sc12 fx rfl rfl ch12
theorem ch13 : chSs ⟨N13, fn13, gloN, kw13⟩ B13 ⟨(defScope S13).names, (defScope S13).names⟩ (defBody S13) = true := by decide +kernel
theorem sc13 : FnScope N13 ["thing", "least", "most"] (defScope S13) := ⟨rfl, rfl, rfl, by decide +kernel, by decide +kernel, by decide +kernel, by decide +kernel⟩
theorem ok13 {f : Addr} {fd : FuncData} (fn : Fun K "is_between" "is_between" S13 f fd) (fx : Fx P w K mg base 36 ⟨N13, fn13, gloN, kw13⟩ T13 gloD) : FnG P w K mg base 37 f fd ["thing", "least", "most"] F13 := fnG_of (np := 3) (nl := 0) fn sc13 fx rfl rfl ch13
theorem ch14 : chSs ⟨N14, fn14, gloN, kw14⟩ B14 ⟨(defScope S14).names, (defScope S14).names⟩ (defBody S14) = true := by decide +kernel
theorem sc14 : FnScope N14 ["thing"] (defScope S14) := ⟨rfl, rfl, rfl, by decide +kernel, by decide +kernel, by decide +kernel, by decide +kernel⟩
theorem ok14 {f : Addr} {fd : FuncData} (fn : Fun K "are_sizes" "are_sizes" S14 f fd) (fx : Fx P w K mg base 37 ⟨N14, fn14, gloN, kw14⟩ T14 gloD) : FnG P w K mg base 38 f fd ["thing"] F14 := fnG_of (np := 1) (nl := 1) fn sc14 fx rfl rfl ch14
theorem ch15 : chSs ⟨N15, fn15, gloN, kw15⟩ B15 ⟨(defScope S15).names, (defScope S15).names⟩ (defBody S15) = true := by decide +kernel
theorem sc15 : FnScope N15 ["some"] (defScope S15) := ⟨rfl, rfl, rfl, by decide +kernel, by decide +kernel, by decide +kernel, by decide +kernel⟩
theorem ok15 {f : Addr} {fd : FuncData} (fn : Fun K "is_rising" "is_rising" S15 f fd) (fx : Fx P w K mg base 38 ⟨N15, fn15, gloN, kw15⟩ T15 gloD) : FnG P w K mg base 39 f fd ["some"] F15 := fnG_of (np := 1) (nl := 2) fn sc15 fx rfl rfl ch15
theorem ch16 : chSs ⟨N16, fn16, gloN, kw16⟩ B16 ⟨(defScope S16).names, (defScope S16).names⟩ (defBody S16) = true := by decide +kernel
theorem sc16 : FnScope N16 ["thing", "least", "most"] (defScope S16) := ⟨rfl, rfl, rfl, by decide +kernel, by decide +kernel, by decide +kernel, by decide +kernel⟩
theorem ok16 {f : Addr} {fd : FuncData} (fn : Fun K "are_between" "are_between" S16 f fd) (fx : Fx P w K mg base 39 ⟨N16, fn16, gloN, kw16⟩ T16 gloD) : FnG P w K mg base 40 f fd ["thing", "least", "most"] F16 := fnG_of (np := 3) (nl := 1) fn sc16 fx rfl rfl ch16
theorem ch17 : chSs ⟨N17, fn17, gloN, kw17⟩ B17 ⟨(defScope S17).names, (defScope S17).names⟩ (defBody S17) = true := by decide +kernel
theorem sc17 : FnScope N17 ["sizes", "thing"] (defScope S17) := ⟨rfl, rfl, rfl, by decide +kernel, by decide +kernel, by decide +kernel, by decide +kernel⟩
theorem ok17 {f : Addr} {fd : FuncData} (fn : Fun K "is_term" "is_term" S17 f fd) (fx : Fx P w K mg base 40 ⟨N17, fn17, gloN, kw17⟩ T17 gloD) : FnG P w K mg base 41 f fd ["sizes", "thing"] F17 := fnG_of (np := 2) (nl := 1) fn sc17 fx rfl rfl ch17
theorem ch18 : chSs ⟨N18, fn18, gloN, kw18⟩ B18 ⟨(defScope S18).names, (defScope S18).names⟩ (defBody S18) = true := by decide +kernel
theorem sc18 : FnScope N18 ["sizes", "thing"] (defScope S18) := ⟨rfl, rfl, rfl, by decide +kernel, by decide +kernel, by decide +kernel, by decide +kernel⟩
theorem ok18 {f : Addr} {fd : FuncData} (fn : Fun K "is_bar_value" "is_bar_value" S18 f fd) (fx : Fx P w K mg base 41 ⟨N18, fn18, gloN, kw18⟩ T18 gloD) : FnG P w K mg base 42 f fd ["sizes", "thing"] F18 := fnG_of (np := 2) (nl := 1) fn sc18 fx rfl rfl ch18
theorem ch19 : chSs ⟨N19, fn19, gloN, kw19⟩ B19 ⟨(defScope S19).names, (defScope S19).names⟩ (defBody S19) = true := by decide +kernel
theorem sc19 : FnScope N19 ["thing"] (defScope S19) := ⟨rfl, rfl, rfl, by decide +kernel, by decide +kernel, by decide +kernel, by decide +kernel⟩
theorem ok19 {f : Addr} {fd : FuncData} (fn : Fun K "is_problem_value" "is_problem_value" S19 f fd) (fx : Fx P w K mg base 42 ⟨N19, fn19, gloN, kw19⟩ T19 gloD) : FnG P w K mg base 43 f fd ["thing"] F19 := fnG_of (np := 1) (nl := 1) fn sc19 fx rfl rfl ch19
theorem ch20 : chSs ⟨N20, fn20, gloN, kw20⟩ B20 ⟨(defScope S20).names, (defScope S20).names⟩ (defBody S20) = true := by decide +kernel
theorem sc20 : FnScope N20 ["thing"] (defScope S20) := ⟨rfl, rfl, rfl, by decide +kernel, by decide +kernel, by decide +kernel, by decide +kernel⟩
theorem ok20 {f : Addr} {fd : FuncData} (fn : Fun K "is_problem" "is_problem" S20 f fd) (fx : Fx P w K mg base 43 ⟨N20, fn20, gloN, kw20⟩ T20 gloD) : FnG P w K mg base 44 f fd ["thing"] F20 := fnG_of (np := 1) (nl := 0) fn sc20 fx rfl rfl ch20
theorem ch21 : chSs ⟨N21, fn21, gloN, kw21⟩ B21 ⟨(defScope S21).names, (defScope S21).names⟩ (defBody S21) = true := by decide +kernel
theorem sc21 : FnScope N21 ["sizes", "thing"] (defScope S21) := ⟨rfl, rfl, rfl, by decide +kernel, by decide +kernel, by decide +kernel, by decide +kernel⟩
theorem ok21 {f : Addr} {fd : FuncData} (fn : Fun K "is_bar" "is_bar" S21 f fd) (fx : Fx P w K mg base 44 ⟨N21, fn21, gloN, kw21⟩ T21 gloD) : FnG P w K mg base 45 f fd ["sizes", "thing"] F21 := fnG_of (np := 2) (nl := 0) fn sc21 fx rfl rfl ch21
theorem ch22 : chSs ⟨N22, fn22, gloN, kw22⟩ B22 ⟨(defScope S22).names, (defScope S22).names⟩ (defBody S22) = true := by decide +kernel
theorem sc22 : FnScope N22 ["problem"] (defScope S22) := ⟨rfl, rfl, rfl, by decide +kernel, by decide +kernel, by decide +kernel, by decide +kernel⟩
theorem ok22 {f : Addr} {fd : FuncData} (fn : Fun K "need_problem" "need_problem" S22 f fd) (fx : Fx P w K mg base 45 ⟨N22, fn22, gloN, kw22⟩ T22 gloD) : FnG P w K mg base 46 f fd ["problem"] F22 := fnG_of (np := 1) (nl := 0) fn sc22 fx rfl rfl ch22
theorem ch23 : chSs ⟨N23, fn23, gloN, kw23⟩ B23 ⟨(defScope S23).names, (defScope S23).names⟩ (defBody S23) = true := by decide +kernel
theorem sc23 : FnScope N23 ["sizes", "thing"] (defScope S23) := ⟨rfl, rfl, rfl, by decide +kernel, by decide +kernel, by decide +kernel, by decide +kernel⟩
theorem ok23 {f : Addr} {fd : FuncData} (fn : Fun K "is_choice_value" "is_choice_value" S23 f fd) (fx : Fx P w K mg base 46 ⟨N23, fn23, gloN, kw23⟩ T23 gloD) : FnG P w K mg base 47 f fd ["sizes", "thing"] F23 := fnG_of (np := 2) (nl := 2) fn sc23 fx rfl rfl ch23
theorem ch24 : chSs ⟨N24, fn24, gloN, kw24⟩ B24 ⟨(defScope S24).names, (defScope S24).names⟩ (defBody S24) = true := by decide +kernel
theorem sc24 : FnScope N24 ["problem", "thing"] (defScope S24) := ⟨rfl, rfl, rfl, by decide +kernel, by decide +kernel, by decide +kernel, by decide +kernel⟩
theorem ok24 {f : Addr} {fd : FuncData} (fn : Fun K "is_choice_of" "is_choice_of" S24 f fd) (fx : Fx P w K mg base 47 ⟨N24, fn24, gloN, kw24⟩ T24 gloD) : FnG P w K mg base 48 f fd ["problem", "thing"] F24 := fnG_of (np := 2) (nl := 0) fn sc24 fx rfl rfl ch24
theorem ch25 : chSs ⟨N25, fn25, gloN, kw25⟩ B25 ⟨(defScope S25).names, (defScope S25).names⟩ (defBody S25) = true := by decide +kernel
theorem sc25 : FnScope N25 ["_law_thing"] (defScope S25) := ⟨rfl, rfl, rfl, by decide +kernel, by decide +kernel, by decide +kernel, by decide +kernel⟩
theorem ok25 {f : Addr} {fd : FuncData} (fn : Fun K "_law_is_number" "_law_is_number" S25 f fd) (fx : Fx P w K mg base 48 ⟨N25, fn25, gloN, kw25⟩ T25 gloD) : FnG P w K mg base 49 f fd ["_law_thing"] F25 := fnG_of (np := 1) (nl := 0) fn sc25 fx rfl rfl ch25
theorem ch26 : chSs ⟨N26, fn26, gloN, kw26⟩ B26 ⟨(defScope S26).names, (defScope S26).names⟩ (defBody S26) = true := by decide +kernel
theorem sc26 : FnScope N26 ["_law_thing"] (defScope S26) := ⟨rfl, rfl, rfl, by decide +kernel, by decide +kernel, by decide +kernel, by decide +kernel⟩
theorem ok26 {f : Addr} {fd : FuncData} (fn : Fun K "_law_are_sizes" "_law_are_sizes" S26 f fd) (fx : Fx P w K mg base 49 ⟨N26, fn26, gloN, kw26⟩ T26 gloD) : FnG P w K mg base 50 f fd ["_law_thing"] F26 := fnG_of (np := 1) (nl := 1) fn sc26 fx rfl rfl ch26
theorem ch27 : chSs ⟨N27, fn27, gloN, kw27⟩ B27 ⟨(defScope S27).names, (defScope S27).names⟩ (defBody S27) = true := by decide +kernel
theorem sc27 : FnScope N27 ["_law_sizes_here", "_law_thing"] (defScope S27) := ⟨rfl, rfl, rfl, by decide +kernel, by decide +kernel, by decide +kernel, by decide +kernel⟩
theorem ok27 {f : Addr} {fd : FuncData} (fn : Fun K "_law_is_bar" "_law_is_bar" S27 f fd) (fx : Fx P w K mg base 50 ⟨N27, fn27, gloN, kw27⟩ T27 gloD) : FnG P w K mg base 51 f fd ["_law_sizes_here", "_law_thing"] F27 := fnG_of (np := 2) (nl := 4) fn sc27 fx rfl rfl ch27
theorem ch28 : chSs ⟨N28, fn28, gloN, kw28⟩ B28 ⟨(defScope S28).names, (defScope S28).names⟩ (defBody S28) = true := by decide +kernel
theorem sc28 : FnScope N28 ["_law_thing"] (defScope S28) := ⟨rfl, rfl, rfl, by decide +kernel, by decide +kernel, by decide +kernel, by decide +kernel⟩
theorem ok28 {f : Addr} {fd : FuncData} (fn : Fun K "_law_is_problem" "_law_is_problem" S28 f fd) (fx : Fx P w K mg base 51 ⟨N28, fn28, gloN, kw28⟩ T28 gloD) : FnG P w K mg base 52 f fd ["_law_thing"] F28 := fnG_of (np := 1) (nl := 1) fn sc28 fx rfl rfl ch28
theorem ch29 : chSs ⟨N29, fn29, gloN, kw29⟩ B29 ⟨(defScope S29).names, (defScope S29).names⟩ (defBody S29) = true := by decide +kernel
theorem sc29 : FnScope N29 ["_law_sizes_here", "_law_thing"] (defScope S29) := ⟨rfl, rfl, rfl, by decide +kernel, by decide +kernel, by decide +kernel, by decide +kernel⟩
theorem ok29 {f : Addr} {fd : FuncData} (fn : Fun K "_law_is_choice" "_law_is_choice" S29 f fd) (fx : Fx P w K mg base 52 ⟨N29, fn29, gloN, kw29⟩ T29 gloD) : FnG P w K mg base 53 f fd ["_law_sizes_here", "_law_thing"] F29 := fnG_of (np := 2) (nl := 2) fn sc29 fx rfl rfl ch29
theorem ch30 : chSs ⟨N30, fn30, gloN, kw30⟩ B30 ⟨(defScope S30).names, (defScope S30).names⟩ (defBody S30) = true := by decide +kernel
theorem sc30 : FnScope N30 ["_law_script"] (defScope S30) := ⟨rfl, rfl, rfl, by decide +kernel, by decide +kernel, by decide +kernel, by decide +kernel⟩
theorem ok30 {f : Addr} {fd : FuncData} (fn : Fun K "law" "law" S30 f fd) (fx : Fx P w K mg base 53 ⟨N30, fn30, gloN, kw30⟩ T30 gloD) : FnG P w K mg base 54 f fd ["_law_script"] F30 := fnG_of (np := 1) (nl := 10) fn sc30 fx rfl rfl ch30
theorem chain {h : Heap} {fa : Addr} (X : K.In h) (hn : h.Ns mainGlobals mg) (hfa : mg "law" = some (.ref fa))
    {f0 : Addr} {oc0 kV0 dc0 pm0 cd0 ct0 : Value} {od0 an0 : Option Addr} {sl0 : Array (Option Value)} (a0 : W.nsIn K mainGlobals "_law_deck" = some (some (.ref f0))) (l0 : K.lookup f0 = some ⟨oc0, od0, .func (W.fnOf "_law_deck" "_law_deck" (defArgs S0) (defBody S0) (defScope S0) .none kV0 dc0 pm0 an0 cd0 ct0), sl0⟩) (c0 : W.codeIn K cd0 "_law_deck" = true) (k0 : W.keepIn K (.ref f0) = true)
    {f1 : Addr} {oc1 kV1 dc1 pm1 cd1 ct1 : Value} {od1 an1 : Option Addr} {sl1 : Array (Option Value)} (a1 : W.nsIn K mainGlobals "_law_draw" = some (some (.ref f1))) (l1 : K.lookup f1 = some ⟨oc1, od1, .func (W.fnOf "_law_draw" "_law_draw" (defArgs S1) (defBody S1) (defScope S1) .none kV1 dc1 pm1 an1 cd1 ct1), sl1⟩) (c1 : W.codeIn K cd1 "_law_draw" = true) (k1 : W.keepIn K (.ref f1) = true)
    {f2 : Addr} {oc2 kV2 dc2 pm2 cd2 ct2 : Value} {od2 an2 : Option Addr} {sl2 : Array (Option Value)} (a2 : W.nsIn K mainGlobals "_law_pick" = some (some (.ref f2))) (l2 : K.lookup f2 = some ⟨oc2, od2, .func (W.fnOf "_law_pick" "_law_pick" (defArgs S2) (defBody S2) (defScope S2) .none kV2 dc2 pm2 an2 cd2 ct2), sl2⟩) (c2 : W.codeIn K cd2 "_law_pick" = true) (k2 : W.keepIn K (.ref f2) = true)
    {f3 : Addr} {oc3 kV3 dc3 pm3 cd3 ct3 : Value} {od3 an3 : Option Addr} {sl3 : Array (Option Value)} (a3 : W.nsIn K mainGlobals "_law_sizes" = some (some (.ref f3))) (l3 : K.lookup f3 = some ⟨oc3, od3, .func (W.fnOf "_law_sizes" "_law_sizes" (defArgs S3) (defBody S3) (defScope S3) .none kV3 dc3 pm3 an3 cd3 ct3), sl3⟩) (c3 : W.codeIn K cd3 "_law_sizes" = true) (k3 : W.keepIn K (.ref f3) = true)
    {f4 : Addr} {oc4 kV4 dc4 pm4 cd4 ct4 : Value} {od4 an4 : Option Addr} {sl4 : Array (Option Value)} (a4 : W.nsIn K mainGlobals "_law_shuffled" = some (some (.ref f4))) (l4 : K.lookup f4 = some ⟨oc4, od4, .func (W.fnOf "_law_shuffled" "_law_shuffled" (defArgs S4) (defBody S4) (defScope S4) .none kV4 dc4 pm4 an4 cd4 ct4), sl4⟩) (c4 : W.codeIn K cd4 "_law_shuffled" = true) (k4 : W.keepIn K (.ref f4) = true)
    {f5 : Addr} {oc5 kV5 dc5 pm5 cd5 ct5 : Value} {od5 an5 : Option Addr} {sl5 : Array (Option Value)} (a5 : W.nsIn K mainGlobals "_law_term" = some (some (.ref f5))) (l5 : K.lookup f5 = some ⟨oc5, od5, .func (W.fnOf "_law_term" "_law_term" (defArgs S5) (defBody S5) (defScope S5) .none kV5 dc5 pm5 an5 cd5 ct5), sl5⟩) (c5 : W.codeIn K cd5 "_law_term" = true) (k5 : W.keepIn K (.ref f5) = true)
    {f6 : Addr} {oc6 kV6 dc6 pm6 cd6 ct6 : Value} {od6 an6 : Option Addr} {sl6 : Array (Option Value)} (a6 : W.nsIn K mainGlobals "_law_drawn_bar" = some (some (.ref f6))) (l6 : K.lookup f6 = some ⟨oc6, od6, .func (W.fnOf "_law_drawn_bar" "_law_drawn_bar" (defArgs S6) (defBody S6) (defScope S6) .none kV6 dc6 pm6 an6 cd6 ct6), sl6⟩) (c6 : W.codeIn K cd6 "_law_drawn_bar" = true) (k6 : W.keepIn K (.ref f6) = true)
    {f7 : Addr} {oc7 kV7 dc7 pm7 cd7 ct7 : Value} {od7 an7 : Option Addr} {sl7 : Array (Option Value)} (a7 : W.nsIn K mainGlobals "_law_problem" = some (some (.ref f7))) (l7 : K.lookup f7 = some ⟨oc7, od7, .func (W.fnOf "_law_problem" "_law_problem" (defArgs S7) (defBody S7) (defScope S7) .none kV7 dc7 pm7 an7 cd7 ct7), sl7⟩) (c7 : W.codeIn K cd7 "_law_problem" = true) (k7 : W.keepIn K (.ref f7) = true)
    {f8 : Addr} {oc8 kV8 dc8 pm8 cd8 ct8 : Value} {od8 an8 : Option Addr} {sl8 : Array (Option Value)} (a8 : W.nsIn K mainGlobals "_law_odd" = some (some (.ref f8))) (l8 : K.lookup f8 = some ⟨oc8, od8, .func (W.fnOf "_law_odd" "_law_odd" (defArgs S8) (defBody S8) (defScope S8) .none kV8 dc8 pm8 an8 cd8 ct8), sl8⟩) (c8 : W.codeIn K cd8 "_law_odd" = true) (k8 : W.keepIn K (.ref f8) = true)
    {f9 : Addr} {oc9 kV9 dc9 pm9 cd9 ct9 : Value} {od9 an9 : Option Addr} {sl9 : Array (Option Value)} (a9 : W.nsIn K mainGlobals "_law_bent" = some (some (.ref f9))) (l9 : K.lookup f9 = some ⟨oc9, od9, .func (W.fnOf "_law_bent" "_law_bent" (defArgs S9) (defBody S9) (defScope S9) .none kV9 dc9 pm9 an9 cd9 ct9), sl9⟩) (c9 : W.codeIn K cd9 "_law_bent" = true) (k9 : W.keepIn K (.ref f9) = true)
    {f10 : Addr} {oc10 kV10 dc10 pm10 cd10 ct10 : Value} {od10 an10 : Option Addr} {sl10 : Array (Option Value)} (a10 : W.nsIn K mainGlobals "_law_great" = some (some (.ref f10))) (l10 : K.lookup f10 = some ⟨oc10, od10, .func (W.fnOf "_law_great" "_law_great" (defArgs S10) (defBody S10) (defScope S10) .none kV10 dc10 pm10 an10 cd10 ct10), sl10⟩) (c10 : W.codeIn K cd10 "_law_great" = true) (k10 : W.keepIn K (.ref f10) = true)
    {f11 : Addr} {oc11 kV11 dc11 pm11 cd11 ct11 : Value} {od11 an11 : Option Addr} {sl11 : Array (Option Value)} (a11 : W.nsIn K mainGlobals "is_row" = some (some (.ref f11))) (l11 : K.lookup f11 = some ⟨oc11, od11, .func (W.fnOf "is_row" "is_row" (defArgs S11) (defBody S11) (defScope S11) .none kV11 dc11 pm11 an11 cd11 ct11), sl11⟩) (c11 : W.codeIn K cd11 "is_row" = true) (k11 : W.keepIn K (.ref f11) = true)
    {f12 : Addr} {oc12 kV12 dc12 pm12 cd12 ct12 : Value} {od12 an12 : Option Addr} {sl12 : Array (Option Value)} (a12 : W.nsIn K mainGlobals "is_integer" = some (some (.ref f12))) (l12 : K.lookup f12 = some ⟨oc12, od12, .func (W.fnOf "is_integer" "is_integer" (defArgs S12) (defBody S12) (defScope S12) .none kV12 dc12 pm12 an12 cd12 ct12), sl12⟩) (c12 : W.codeIn K cd12 "is_integer" = true) (k12 : W.keepIn K (.ref f12) = true)
    {f13 : Addr} {oc13 kV13 dc13 pm13 cd13 ct13 : Value} {od13 an13 : Option Addr} {sl13 : Array (Option Value)} (a13 : W.nsIn K mainGlobals "is_between" = some (some (.ref f13))) (l13 : K.lookup f13 = some ⟨oc13, od13, .func (W.fnOf "is_between" "is_between" (defArgs S13) (defBody S13) (defScope S13) .none kV13 dc13 pm13 an13 cd13 ct13), sl13⟩) (c13 : W.codeIn K cd13 "is_between" = true) (k13 : W.keepIn K (.ref f13) = true)
    {f14 : Addr} {oc14 kV14 dc14 pm14 cd14 ct14 : Value} {od14 an14 : Option Addr} {sl14 : Array (Option Value)} (a14 : W.nsIn K mainGlobals "are_sizes" = some (some (.ref f14))) (l14 : K.lookup f14 = some ⟨oc14, od14, .func (W.fnOf "are_sizes" "are_sizes" (defArgs S14) (defBody S14) (defScope S14) .none kV14 dc14 pm14 an14 cd14 ct14), sl14⟩) (c14 : W.codeIn K cd14 "are_sizes" = true) (k14 : W.keepIn K (.ref f14) = true)
    {f15 : Addr} {oc15 kV15 dc15 pm15 cd15 ct15 : Value} {od15 an15 : Option Addr} {sl15 : Array (Option Value)} (a15 : W.nsIn K mainGlobals "is_rising" = some (some (.ref f15))) (l15 : K.lookup f15 = some ⟨oc15, od15, .func (W.fnOf "is_rising" "is_rising" (defArgs S15) (defBody S15) (defScope S15) .none kV15 dc15 pm15 an15 cd15 ct15), sl15⟩) (c15 : W.codeIn K cd15 "is_rising" = true) (k15 : W.keepIn K (.ref f15) = true)
    {f16 : Addr} {oc16 kV16 dc16 pm16 cd16 ct16 : Value} {od16 an16 : Option Addr} {sl16 : Array (Option Value)} (a16 : W.nsIn K mainGlobals "are_between" = some (some (.ref f16))) (l16 : K.lookup f16 = some ⟨oc16, od16, .func (W.fnOf "are_between" "are_between" (defArgs S16) (defBody S16) (defScope S16) .none kV16 dc16 pm16 an16 cd16 ct16), sl16⟩) (c16 : W.codeIn K cd16 "are_between" = true) (k16 : W.keepIn K (.ref f16) = true)
    {f17 : Addr} {oc17 kV17 dc17 pm17 cd17 ct17 : Value} {od17 an17 : Option Addr} {sl17 : Array (Option Value)} (a17 : W.nsIn K mainGlobals "is_term" = some (some (.ref f17))) (l17 : K.lookup f17 = some ⟨oc17, od17, .func (W.fnOf "is_term" "is_term" (defArgs S17) (defBody S17) (defScope S17) .none kV17 dc17 pm17 an17 cd17 ct17), sl17⟩) (c17 : W.codeIn K cd17 "is_term" = true) (k17 : W.keepIn K (.ref f17) = true)
    {f18 : Addr} {oc18 kV18 dc18 pm18 cd18 ct18 : Value} {od18 an18 : Option Addr} {sl18 : Array (Option Value)} (a18 : W.nsIn K mainGlobals "is_bar_value" = some (some (.ref f18))) (l18 : K.lookup f18 = some ⟨oc18, od18, .func (W.fnOf "is_bar_value" "is_bar_value" (defArgs S18) (defBody S18) (defScope S18) .none kV18 dc18 pm18 an18 cd18 ct18), sl18⟩) (c18 : W.codeIn K cd18 "is_bar_value" = true) (k18 : W.keepIn K (.ref f18) = true)
    {f19 : Addr} {oc19 kV19 dc19 pm19 cd19 ct19 : Value} {od19 an19 : Option Addr} {sl19 : Array (Option Value)} (a19 : W.nsIn K mainGlobals "is_problem_value" = some (some (.ref f19))) (l19 : K.lookup f19 = some ⟨oc19, od19, .func (W.fnOf "is_problem_value" "is_problem_value" (defArgs S19) (defBody S19) (defScope S19) .none kV19 dc19 pm19 an19 cd19 ct19), sl19⟩) (c19 : W.codeIn K cd19 "is_problem_value" = true) (k19 : W.keepIn K (.ref f19) = true)
    {f20 : Addr} {oc20 kV20 dc20 pm20 cd20 ct20 : Value} {od20 an20 : Option Addr} {sl20 : Array (Option Value)} (a20 : W.nsIn K mainGlobals "is_problem" = some (some (.ref f20))) (l20 : K.lookup f20 = some ⟨oc20, od20, .func (W.fnOf "is_problem" "is_problem" (defArgs S20) (defBody S20) (defScope S20) .none kV20 dc20 pm20 an20 cd20 ct20), sl20⟩) (c20 : W.codeIn K cd20 "is_problem" = true) (k20 : W.keepIn K (.ref f20) = true)
    {f21 : Addr} {oc21 kV21 dc21 pm21 cd21 ct21 : Value} {od21 an21 : Option Addr} {sl21 : Array (Option Value)} (a21 : W.nsIn K mainGlobals "is_bar" = some (some (.ref f21))) (l21 : K.lookup f21 = some ⟨oc21, od21, .func (W.fnOf "is_bar" "is_bar" (defArgs S21) (defBody S21) (defScope S21) .none kV21 dc21 pm21 an21 cd21 ct21), sl21⟩) (c21 : W.codeIn K cd21 "is_bar" = true) (k21 : W.keepIn K (.ref f21) = true)
    {f22 : Addr} {oc22 kV22 dc22 pm22 cd22 ct22 : Value} {od22 an22 : Option Addr} {sl22 : Array (Option Value)} (a22 : W.nsIn K mainGlobals "need_problem" = some (some (.ref f22))) (l22 : K.lookup f22 = some ⟨oc22, od22, .func (W.fnOf "need_problem" "need_problem" (defArgs S22) (defBody S22) (defScope S22) .none kV22 dc22 pm22 an22 cd22 ct22), sl22⟩) (c22 : W.codeIn K cd22 "need_problem" = true) (k22 : W.keepIn K (.ref f22) = true)
    {f23 : Addr} {oc23 kV23 dc23 pm23 cd23 ct23 : Value} {od23 an23 : Option Addr} {sl23 : Array (Option Value)} (a23 : W.nsIn K mainGlobals "is_choice_value" = some (some (.ref f23))) (l23 : K.lookup f23 = some ⟨oc23, od23, .func (W.fnOf "is_choice_value" "is_choice_value" (defArgs S23) (defBody S23) (defScope S23) .none kV23 dc23 pm23 an23 cd23 ct23), sl23⟩) (c23 : W.codeIn K cd23 "is_choice_value" = true) (k23 : W.keepIn K (.ref f23) = true)
    {f24 : Addr} {oc24 kV24 dc24 pm24 cd24 ct24 : Value} {od24 an24 : Option Addr} {sl24 : Array (Option Value)} (a24 : W.nsIn K mainGlobals "is_choice_of" = some (some (.ref f24))) (l24 : K.lookup f24 = some ⟨oc24, od24, .func (W.fnOf "is_choice_of" "is_choice_of" (defArgs S24) (defBody S24) (defScope S24) .none kV24 dc24 pm24 an24 cd24 ct24), sl24⟩) (c24 : W.codeIn K cd24 "is_choice_of" = true) (k24 : W.keepIn K (.ref f24) = true)
    {f25 : Addr} {oc25 kV25 dc25 pm25 cd25 ct25 : Value} {od25 an25 : Option Addr} {sl25 : Array (Option Value)} (a25 : W.nsIn K mainGlobals "_law_is_number" = some (some (.ref f25))) (l25 : K.lookup f25 = some ⟨oc25, od25, .func (W.fnOf "_law_is_number" "_law_is_number" (defArgs S25) (defBody S25) (defScope S25) .none kV25 dc25 pm25 an25 cd25 ct25), sl25⟩) (c25 : W.codeIn K cd25 "_law_is_number" = true) (k25 : W.keepIn K (.ref f25) = true)
    {f26 : Addr} {oc26 kV26 dc26 pm26 cd26 ct26 : Value} {od26 an26 : Option Addr} {sl26 : Array (Option Value)} (a26 : W.nsIn K mainGlobals "_law_are_sizes" = some (some (.ref f26))) (l26 : K.lookup f26 = some ⟨oc26, od26, .func (W.fnOf "_law_are_sizes" "_law_are_sizes" (defArgs S26) (defBody S26) (defScope S26) .none kV26 dc26 pm26 an26 cd26 ct26), sl26⟩) (c26 : W.codeIn K cd26 "_law_are_sizes" = true) (k26 : W.keepIn K (.ref f26) = true)
    {f27 : Addr} {oc27 kV27 dc27 pm27 cd27 ct27 : Value} {od27 an27 : Option Addr} {sl27 : Array (Option Value)} (a27 : W.nsIn K mainGlobals "_law_is_bar" = some (some (.ref f27))) (l27 : K.lookup f27 = some ⟨oc27, od27, .func (W.fnOf "_law_is_bar" "_law_is_bar" (defArgs S27) (defBody S27) (defScope S27) .none kV27 dc27 pm27 an27 cd27 ct27), sl27⟩) (c27 : W.codeIn K cd27 "_law_is_bar" = true) (k27 : W.keepIn K (.ref f27) = true)
    {f28 : Addr} {oc28 kV28 dc28 pm28 cd28 ct28 : Value} {od28 an28 : Option Addr} {sl28 : Array (Option Value)} (a28 : W.nsIn K mainGlobals "_law_is_problem" = some (some (.ref f28))) (l28 : K.lookup f28 = some ⟨oc28, od28, .func (W.fnOf "_law_is_problem" "_law_is_problem" (defArgs S28) (defBody S28) (defScope S28) .none kV28 dc28 pm28 an28 cd28 ct28), sl28⟩) (c28 : W.codeIn K cd28 "_law_is_problem" = true) (k28 : W.keepIn K (.ref f28) = true)
    {f29 : Addr} {oc29 kV29 dc29 pm29 cd29 ct29 : Value} {od29 an29 : Option Addr} {sl29 : Array (Option Value)} (a29 : W.nsIn K mainGlobals "_law_is_choice" = some (some (.ref f29))) (l29 : K.lookup f29 = some ⟨oc29, od29, .func (W.fnOf "_law_is_choice" "_law_is_choice" (defArgs S29) (defBody S29) (defScope S29) .none kV29 dc29 pm29 an29 cd29 ct29), sl29⟩) (c29 : W.codeIn K cd29 "_law_is_choice" = true) (k29 : W.keepIn K (.ref f29) = true)
    {f30 : Addr} {oc30 kV30 dc30 pm30 cd30 ct30 : Value} {od30 an30 : Option Addr} {sl30 : Array (Option Value)} (a30 : W.nsIn K mainGlobals "law" = some (some (.ref f30))) (l30 : K.lookup f30 = some ⟨oc30, od30, .func (W.fnOf "law" "law" (defArgs S30) (defBody S30) (defScope S30) .none kV30 dc30 pm30 an30 cd30 ct30), sl30⟩) (c30 : W.codeIn K cd30 "law" = true) (k30 : W.keepIn K (.ref f30) = true)
    (z0 : W.nsIn K mainGlobals "int" = some none)
    (z1 : W.nsIn K mainGlobals "len" = some none)
    (z2 : W.nsIn K mainGlobals "max" = some none)
    (z3 : W.nsIn K mainGlobals "min" = some none)
    (z4 : W.nsIn K mainGlobals "abs" = some none)
    (z5 : W.nsIn K mainGlobals "list" = some none)
    (z6 : W.nsIn K mainGlobals "tuple" = some none)
    (z7 : W.nsIn K mainGlobals "repr" = some none)
    (z8 : W.nsIn K mainGlobals "all" = some none)
    (z9 : W.nsIn K mainGlobals "any" = some none)
    (z10 : W.nsIn K mainGlobals "sorted" = some none)
    (z11 : W.nsIn K mainGlobals "isinstance" = some none)
    (z12 : W.nsIn K mainGlobals "range" = some none)
    (z13 : W.nsIn K mainGlobals "enumerate" = some none)
    (z14 : W.nsIn K mainGlobals "zip" = some none)
    (z15 : W.nsIn K mainGlobals "bool" = some none)
    (z16 : W.nsIn K mainGlobals "str" = some none)
    (z17 : W.nsIn K mainGlobals "dict" = some none)
    (z18 : W.nsIn K mainGlobals "set" = some none)
    : ∃ fd : FuncData, (∀ (s : Shared) (u : Value), BindsTo s fd ⟨[u], []⟩ [("_law_script", u)]) ∧ ∀ base : Heap, K.In base → base.Ns mainGlobals mg → FnG P w K mg base 54 fa fd ["_law_script"] F30 := by
  have e := hfa.symm.trans (W.mg_of X hn a30)
  cases e
  have hb : ∀ x ∈ bltNames, mg x = none := by
    intro x hx
    simp only [bltNames, List.mem_cons, List.not_mem_nil, or_false] at hx
    rcases hx with rfl | rfl | rfl | rfl | rfl | rfl | rfl | rfl | rfl | rfl | rfl | rfl | rfl | rfl | rfl | rfl | rfl | rfl | rfl
    · exact W.mg_none_of X hn z0
    · exact W.mg_none_of X hn z1
    · exact W.mg_none_of X hn z2
    · exact W.mg_none_of X hn z3
    · exact W.mg_none_of X hn z4
    · exact W.mg_none_of X hn z5
    · exact W.mg_none_of X hn z6
    · exact W.mg_none_of X hn z7
    · exact W.mg_none_of X hn z8
    · exact W.mg_none_of X hn z9
    · exact W.mg_none_of X hn z10
    · exact W.mg_none_of X hn z11
    · exact W.mg_none_of X hn z12
    · exact W.mg_none_of X hn z13
    · exact W.mg_none_of X hn z14
    · exact W.mg_none_of X hn z15
    · exact W.mg_none_of X hn z16
    · exact W.mg_none_of X hn z17
    · exact W.mg_none_of X hn z18
  have Fn0 := fun_mk (st := S0) l0 c0 k0
  have b0 := Fn0.binds (ps := ["_law_script"]) fun _ _ _ _ _ _ us hl => match us, hl with | [_], _ => rfl
  have Fn1 := fun_mk (st := S1) l1 c1 k1
  have b1 := Fn1.binds (ps := ["_law_deck_here", "_law_below"]) fun _ _ _ _ _ _ us hl => match us, hl with | [_, _], _ => rfl
  have Fn2 := fun_mk (st := S2) l2 c2 k2
  have b2 := Fn2.binds (ps := ["_law_deck_here", "_law_some"]) fun _ _ _ _ _ _ us hl => match us, hl with | [_, _], _ => rfl
  have Fn3 := fun_mk (st := S3) l3 c3 k3
  have b3 := Fn3.binds (ps := ["_law_deck_here", "_law_most", "_law_many"]) fun _ _ _ _ _ _ us hl => match us, hl with | [_, _, _], _ => rfl
  have Fn4 := fun_mk (st := S4) l4 c4 k4
  have b4 := Fn4.binds (ps := ["_law_deck_here", "_law_some"]) fun _ _ _ _ _ _ us hl => match us, hl with | [_, _], _ => rfl
  have Fn5 := fun_mk (st := S5) l5 c5 k5
  have b5 := Fn5.binds (ps := ["_law_deck_here", "_law_i", "_law_size"]) fun _ _ _ _ _ _ us hl => match us, hl with | [_, _, _], _ => rfl
  have Fn6 := fun_mk (st := S6) l6 c6 k6
  have b6 := Fn6.binds (ps := ["_law_deck_here", "_law_sizes_here", "_law_most"]) fun _ _ _ _ _ _ us hl => match us, hl with | [_, _, _], _ => rfl
  have Fn7 := fun_mk (st := S7) l7 c7 k7
  have b7 := Fn7.binds (ps := ["_law_deck_here", "_law_most", "_law_many"]) fun _ _ _ _ _ _ us hl => match us, hl with | [_, _, _], _ => rfl
  have Fn8 := fun_mk (st := S8) l8 c8 k8
  have b8 := Fn8.binds (ps := ["_law_deck_here", "_law_it"]) fun _ _ _ _ _ _ us hl => match us, hl with | [_, _], _ => rfl
  have Fn9 := fun_mk (st := S9) l9 c9 k9
  have b9 := Fn9.binds (ps := ["_law_deck_here", "_law_it"]) fun _ _ _ _ _ _ us hl => match us, hl with | [_, _], _ => rfl
  have Fn10 := fun_mk (st := S10) l10 c10 k10
  have b10 := Fn10.binds (ps := ["_law_deck_here", "_law_sizes_here"]) fun _ _ _ _ _ _ us hl => match us, hl with | [_, _], _ => rfl
  have Fn11 := fun_mk (st := S11) l11 c11 k11
  have b11 := Fn11.binds (ps := ["thing", "many"]) fun _ _ _ _ _ _ us hl => match us, hl with | [_, _], _ => rfl
  have Fn12 := fun_mk (st := S12) l12 c12 k12
  have b12 := Fn12.binds (ps := ["thing"]) fun _ _ _ _ _ _ us hl => match us, hl with | [_], _ => rfl
  have Fn13 := fun_mk (st := S13) l13 c13 k13
  have b13 := Fn13.binds (ps := ["thing", "least", "most"]) fun _ _ _ _ _ _ us hl => match us, hl with | [_, _, _], _ => rfl
  have Fn14 := fun_mk (st := S14) l14 c14 k14
  have b14 := Fn14.binds (ps := ["thing"]) fun _ _ _ _ _ _ us hl => match us, hl with | [_], _ => rfl
  have Fn15 := fun_mk (st := S15) l15 c15 k15
  have b15 := Fn15.binds (ps := ["some"]) fun _ _ _ _ _ _ us hl => match us, hl with | [_], _ => rfl
  have Fn16 := fun_mk (st := S16) l16 c16 k16
  have b16 := Fn16.binds (ps := ["thing", "least", "most"]) fun _ _ _ _ _ _ us hl => match us, hl with | [_, _, _], _ => rfl
  have Fn17 := fun_mk (st := S17) l17 c17 k17
  have b17 := Fn17.binds (ps := ["sizes", "thing"]) fun _ _ _ _ _ _ us hl => match us, hl with | [_, _], _ => rfl
  have Fn18 := fun_mk (st := S18) l18 c18 k18
  have b18 := Fn18.binds (ps := ["sizes", "thing"]) fun _ _ _ _ _ _ us hl => match us, hl with | [_, _], _ => rfl
  have Fn19 := fun_mk (st := S19) l19 c19 k19
  have b19 := Fn19.binds (ps := ["thing"]) fun _ _ _ _ _ _ us hl => match us, hl with | [_], _ => rfl
  have Fn20 := fun_mk (st := S20) l20 c20 k20
  have b20 := Fn20.binds (ps := ["thing"]) fun _ _ _ _ _ _ us hl => match us, hl with | [_], _ => rfl
  have q20_0 : KwB K _ ["thing"] ["thing"] [0] := kwb_of Fn20 fun _ _ _ _ _ _ ws zs hl e => by
    match ws, hl with
    | [v0], _ => have e := Option.some.inj e; subst e; rfl
  have Fn21 := fun_mk (st := S21) l21 c21 k21
  have b21 := Fn21.binds (ps := ["sizes", "thing"]) fun _ _ _ _ _ _ us hl => match us, hl with | [_, _], _ => rfl
  have q21_0 : KwB K _ ["sizes", "thing"] ["thing", "sizes"] [1, 0] := kwb_of Fn21 fun _ _ _ _ _ _ ws zs hl e => by
    match ws, hl with
    | [v0, v1], _ => have e := Option.some.inj e; subst e; rfl
  have Fn22 := fun_mk (st := S22) l22 c22 k22
  have b22 := Fn22.binds (ps := ["problem"]) fun _ _ _ _ _ _ us hl => match us, hl with | [_], _ => rfl
  have Fn23 := fun_mk (st := S23) l23 c23 k23
  have b23 := Fn23.binds (ps := ["sizes", "thing"]) fun _ _ _ _ _ _ us hl => match us, hl with | [_, _], _ => rfl
  have Fn24 := fun_mk (st := S24) l24 c24 k24
  have b24 := Fn24.binds (ps := ["problem", "thing"]) fun _ _ _ _ _ _ us hl => match us, hl with | [_, _], _ => rfl
  have q24_0 : KwB K _ ["problem", "thing"] ["thing", "problem"] [1, 0] := kwb_of Fn24 fun _ _ _ _ _ _ ws zs hl e => by
    match ws, hl with
    | [v0, v1], _ => have e := Option.some.inj e; subst e; rfl
  have Fn25 := fun_mk (st := S25) l25 c25 k25
  have b25 := Fn25.binds (ps := ["_law_thing"]) fun _ _ _ _ _ _ us hl => match us, hl with | [_], _ => rfl
  have Fn26 := fun_mk (st := S26) l26 c26 k26
  have b26 := Fn26.binds (ps := ["_law_thing"]) fun _ _ _ _ _ _ us hl => match us, hl with | [_], _ => rfl
  have Fn27 := fun_mk (st := S27) l27 c27 k27
  have b27 := Fn27.binds (ps := ["_law_sizes_here", "_law_thing"]) fun _ _ _ _ _ _ us hl => match us, hl with | [_, _], _ => rfl
  have Fn28 := fun_mk (st := S28) l28 c28 k28
  have b28 := Fn28.binds (ps := ["_law_thing"]) fun _ _ _ _ _ _ us hl => match us, hl with | [_], _ => rfl
  have Fn29 := fun_mk (st := S29) l29 c29 k29
  have b29 := Fn29.binds (ps := ["_law_sizes_here", "_law_thing"]) fun _ _ _ _ _ _ us hl => match us, hl with | [_, _], _ => rfl
  have Fn30 := fun_mk (st := S30) l30 c30 k30
  have b30 := Fn30.binds (ps := ["_law_script"]) fun _ _ _ _ _ _ us hl => match us, hl with | [_], _ => rfl
  refine ⟨W.fnOf "law" "law" (defArgs S30) (defBody S30) (defScope S30) .none kV30 dc30 pm30 an30 cd30 ct30, fun s v => .of_eq rfl, fun base _ _ => ?_⟩
  have x0 : Fx P w K mg base 0 ⟨N0, fn0, gloN, kw0⟩ T0 gloD := Fx.nil hb glo_nil
  have o0 := ok0 Fn0 x0
  have e0 : FnE P w K mg base 1 "_law_deck" F0 [] := ⟨_, _, _, o0, W.mg_of X hn a0, k0, b0, fun q hq => by simp at hq⟩
  have x1 : Fx P w K mg base 1 ⟨N1, fn1, gloN, kw1⟩ T1 gloD := Fx.up (N := []) (Fx.snoc (Fx.up (N' := []) x0 (by decide)) e0 rfl (by decide +kernel)) (Nat.le_refl _)
  have o1 := ok1 Fn1 x1
  have e1 : FnE P w K mg base 2 "_law_draw" F1 [] := ⟨_, _, _, o1, W.mg_of X hn a1, k1, b1, fun q hq => by simp at hq⟩
  have x2 : Fx P w K mg base 2 ⟨N2, fn2, gloN, kw2⟩ T2 gloD := Fx.up (N := []) (Fx.snoc (Fx.up (N' := []) x1 (by decide)) e1 rfl (by decide +kernel)) (Nat.le_refl _)
  have o2 := ok2 Fn2 x2
  have e2 : FnE P w K mg base 3 "_law_pick" F2 [] := ⟨_, _, _, o2, W.mg_of X hn a2, k2, b2, fun q hq => by simp at hq⟩
  have x3 : Fx P w K mg base 3 ⟨N3, fn3, gloN, kw3⟩ T3 gloD := Fx.up (N := []) (Fx.snoc (Fx.up (N' := []) x2 (by decide)) e2 rfl (by decide +kernel)) (Nat.le_refl _)
  have o3 := ok3 Fn3 x3
  have e3 : FnE P w K mg base 4 "_law_sizes" F3 [] := ⟨_, _, _, o3, W.mg_of X hn a3, k3, b3, fun q hq => by simp at hq⟩
  have x4 : Fx P w K mg base 4 ⟨N4, fn4, gloN, kw4⟩ T4 gloD := Fx.up (N := []) (Fx.snoc (Fx.up (N' := []) x3 (by decide)) e3 rfl (by decide +kernel)) (Nat.le_refl _)
  have o4 := ok4 Fn4 x4
  have e4 : FnE P w K mg base 5 "_law_shuffled" F4 [] := ⟨_, _, _, o4, W.mg_of X hn a4, k4, b4, fun q hq => by simp at hq⟩
  have x5 : Fx P w K mg base 5 ⟨N5, fn5, gloN, kw5⟩ T5 gloD := Fx.up (N := []) (Fx.snoc (Fx.up (N' := []) x4 (by decide)) e4 rfl (by decide +kernel)) (Nat.le_refl _)
  have o5 := ok5 Fn5 x5
  have e5 : FnE P w K mg base 6 "_law_term" F5 [] := ⟨_, _, _, o5, W.mg_of X hn a5, k5, b5, fun q hq => by simp at hq⟩
  have x6 : Fx P w K mg base 6 ⟨N6, fn6, gloN, kw6⟩ T6 gloD := Fx.up (N := []) (Fx.snoc (Fx.up (N' := []) x5 (by decide)) e5 rfl (by decide +kernel)) (Nat.le_refl _)
  have o6 := ok6 Fn6 x6
  have e6 : FnE P w K mg base 7 "_law_drawn_bar" F6 [] := ⟨_, _, _, o6, W.mg_of X hn a6, k6, b6, fun q hq => by simp at hq⟩
  have x7 : Fx P w K mg base 7 ⟨N7, fn7, gloN, kw7⟩ T7 gloD := Fx.up (N := []) (Fx.snoc (Fx.up (N' := []) x6 (by decide)) e6 rfl (by decide +kernel)) (Nat.le_refl _)
  have o7 := ok7 Fn7 x7
  have e7 : FnE P w K mg base 8 "_law_problem" F7 [] := ⟨_, _, _, o7, W.mg_of X hn a7, k7, b7, fun q hq => by simp at hq⟩
  have x8 : Fx P w K mg base 8 ⟨N8, fn8, gloN, kw8⟩ T8 gloD := Fx.up (N := []) (Fx.snoc (Fx.up (N' := []) x7 (by decide)) e7 rfl (by decide +kernel)) (Nat.le_refl _)
  have o8 := ok8 Fn8 x8
  have e8 : FnE P w K mg base 9 "_law_odd" F8 [] := ⟨_, _, _, o8, W.mg_of X hn a8, k8, b8, fun q hq => by simp at hq⟩
  have x9 : Fx P w K mg base 9 ⟨N9, fn9, gloN, kw9⟩ T9 gloD := Fx.up (N := []) (Fx.snoc (Fx.up (N' := []) x8 (by decide)) e8 rfl (by decide +kernel)) (Nat.le_refl _)
  have o9 := ok9 Fn9 x9 (W.mg_of X hn a9) k9 b9 (by intro q hq; unfold kwq9 at hq; cases hq)
  have e9 : FnE P w K mg base 33 "_law_bent" F9 [] := ⟨_, _, _, o9, W.mg_of X hn a9, k9, b9, fun q hq => by simp at hq⟩
  have x10 : Fx P w K mg base 33 ⟨N10, fn10, gloN, kw10⟩ T10 gloD := Fx.up (N := []) (Fx.snoc (Fx.up (N' := []) x9 (by decide)) e9 rfl (by decide +kernel)) (Nat.le_refl _)
  have o10 := ok10 Fn10 x10
  have e10 : FnE P w K mg base 34 "_law_great" F10 [] := ⟨_, _, _, o10, W.mg_of X hn a10, k10, b10, fun q hq => by simp at hq⟩
  have x11 : Fx P w K mg base 34 ⟨N11, fn11, gloN, kw11⟩ T11 gloD := Fx.up (N := []) (Fx.snoc (Fx.up (N' := []) x10 (by decide)) e10 rfl (by decide +kernel)) (Nat.le_refl _)
  have o11 := ok11 Fn11 x11
  have e11 : FnE P w K mg base 35 "is_row" F11 [] := ⟨_, _, _, o11, W.mg_of X hn a11, k11, b11, fun q hq => by simp at hq⟩
  have x12 : Fx P w K mg base 35 ⟨N12, fn12, gloN, kw12⟩ T12 gloD := Fx.up (N := []) (Fx.snoc (Fx.up (N' := []) x11 (by decide)) e11 rfl (by decide +kernel)) (Nat.le_refl _)
  have o12 := ok12 Fn12 x12
  have e12 : FnE P w K mg base 36 "is_integer" F12 [] := ⟨_, _, _, o12, W.mg_of X hn a12, k12, b12, fun q hq => by simp at hq⟩
  have x13 : Fx P w K mg base 36 ⟨N13, fn13, gloN, kw13⟩ T13 gloD := Fx.up (N := []) (Fx.snoc (Fx.up (N' := []) x12 (by decide)) e12 rfl (by decide +kernel)) (Nat.le_refl _)
  have o13 := ok13 Fn13 x13
  have e13 : FnE P w K mg base 37 "is_between" F13 [] := ⟨_, _, _, o13, W.mg_of X hn a13, k13, b13, fun q hq => by simp at hq⟩
  have x14 : Fx P w K mg base 37 ⟨N14, fn14, gloN, kw14⟩ T14 gloD := Fx.up (N := []) (Fx.snoc (Fx.up (N' := []) x13 (by decide)) e13 rfl (by decide +kernel)) (Nat.le_refl _)
  have o14 := ok14 Fn14 x14
  have e14 : FnE P w K mg base 38 "are_sizes" F14 [] := ⟨_, _, _, o14, W.mg_of X hn a14, k14, b14, fun q hq => by simp at hq⟩
  have x15 : Fx P w K mg base 38 ⟨N15, fn15, gloN, kw15⟩ T15 gloD := Fx.up (N := []) (Fx.snoc (Fx.up (N' := []) x14 (by decide)) e14 rfl (by decide +kernel)) (Nat.le_refl _)
  have o15 := ok15 Fn15 x15
  have e15 : FnE P w K mg base 39 "is_rising" F15 [] := ⟨_, _, _, o15, W.mg_of X hn a15, k15, b15, fun q hq => by simp at hq⟩
  have x16 : Fx P w K mg base 39 ⟨N16, fn16, gloN, kw16⟩ T16 gloD := Fx.up (N := []) (Fx.snoc (Fx.up (N' := []) x15 (by decide)) e15 rfl (by decide +kernel)) (Nat.le_refl _)
  have o16 := ok16 Fn16 x16
  have e16 : FnE P w K mg base 40 "are_between" F16 [] := ⟨_, _, _, o16, W.mg_of X hn a16, k16, b16, fun q hq => by simp at hq⟩
  have x17 : Fx P w K mg base 40 ⟨N17, fn17, gloN, kw17⟩ T17 gloD := Fx.up (N := []) (Fx.snoc (Fx.up (N' := []) x16 (by decide)) e16 rfl (by decide +kernel)) (Nat.le_refl _)
  have o17 := ok17 Fn17 x17
  have e17 : FnE P w K mg base 41 "is_term" F17 [] := ⟨_, _, _, o17, W.mg_of X hn a17, k17, b17, fun q hq => by simp at hq⟩
  have x18 : Fx P w K mg base 41 ⟨N18, fn18, gloN, kw18⟩ T18 gloD := Fx.up (N := []) (Fx.snoc (Fx.up (N' := []) x17 (by decide)) e17 rfl (by decide +kernel)) (Nat.le_refl _)
  have o18 := ok18 Fn18 x18
  have e18 : FnE P w K mg base 42 "is_bar_value" F18 [] := ⟨_, _, _, o18, W.mg_of X hn a18, k18, b18, fun q hq => by simp at hq⟩
  have x19 : Fx P w K mg base 42 ⟨N19, fn19, gloN, kw19⟩ T19 gloD := Fx.up (N := []) (Fx.snoc (Fx.up (N' := []) x18 (by decide)) e18 rfl (by decide +kernel)) (Nat.le_refl _)
  have o19 := ok19 Fn19 x19
  have e19 : FnE P w K mg base 43 "is_problem_value" F19 [] := ⟨_, _, _, o19, W.mg_of X hn a19, k19, b19, fun q hq => by simp at hq⟩
  have x20 : Fx P w K mg base 43 ⟨N20, fn20, gloN, kw20⟩ T20 gloD := Fx.up (N := []) (Fx.snoc (Fx.up (N' := []) x19 (by decide)) e19 rfl (by decide +kernel)) (Nat.le_refl _)
  have o20 := ok20 Fn20 x20
  have e20 : FnE P w K mg base 44 "is_problem" F20 [(["thing"], [0])] := ⟨_, _, _, o20, W.mg_of X hn a20, k20, b20, fun q hq => by simp only [List.mem_cons, List.not_mem_nil, or_false] at hq; rcases hq with rfl <;> assumption⟩
  have x21 : Fx P w K mg base 44 ⟨N21, fn21, gloN, kw21⟩ T21 gloD := Fx.up (N := []) (Fx.snoc (Fx.up (N' := []) x20 (by decide)) e20 rfl (by decide +kernel)) (Nat.le_refl _)
  have o21 := ok21 Fn21 x21
  have e21 : FnE P w K mg base 45 "is_bar" F21 [(["thing", "sizes"], [1, 0])] := ⟨_, _, _, o21, W.mg_of X hn a21, k21, b21, fun q hq => by simp only [List.mem_cons, List.not_mem_nil, or_false] at hq; rcases hq with rfl <;> assumption⟩
  have x22 : Fx P w K mg base 45 ⟨N22, fn22, gloN, kw22⟩ T22 gloD := Fx.up (N := []) (Fx.snoc (Fx.up (N' := []) x21 (by decide)) e21 rfl (by decide +kernel)) (Nat.le_refl _)
  have o22 := ok22 Fn22 x22
  have e22 : FnE P w K mg base 46 "need_problem" F22 [] := ⟨_, _, _, o22, W.mg_of X hn a22, k22, b22, fun q hq => by simp at hq⟩
  have x23 : Fx P w K mg base 46 ⟨N23, fn23, gloN, kw23⟩ T23 gloD := Fx.up (N := []) (Fx.snoc (Fx.up (N' := []) x22 (by decide)) e22 rfl (by decide +kernel)) (Nat.le_refl _)
  have o23 := ok23 Fn23 x23
  have e23 : FnE P w K mg base 47 "is_choice_value" F23 [] := ⟨_, _, _, o23, W.mg_of X hn a23, k23, b23, fun q hq => by simp at hq⟩
  have x24 : Fx P w K mg base 47 ⟨N24, fn24, gloN, kw24⟩ T24 gloD := Fx.up (N := []) (Fx.snoc (Fx.up (N' := []) x23 (by decide)) e23 rfl (by decide +kernel)) (Nat.le_refl _)
  have o24 := ok24 Fn24 x24
  have e24 : FnE P w K mg base 48 "is_choice_of" F24 [(["thing", "problem"], [1, 0])] := ⟨_, _, _, o24, W.mg_of X hn a24, k24, b24, fun q hq => by simp only [List.mem_cons, List.not_mem_nil, or_false] at hq; rcases hq with rfl <;> assumption⟩
  have x25 : Fx P w K mg base 48 ⟨N25, fn25, gloN, kw25⟩ T25 gloD := Fx.up (N := []) (Fx.snoc (Fx.up (N' := []) x24 (by decide)) e24 rfl (by decide +kernel)) (Nat.le_refl _)
  have o25 := ok25 Fn25 x25
  have e25 : FnE P w K mg base 49 "_law_is_number" F25 [] := ⟨_, _, _, o25, W.mg_of X hn a25, k25, b25, fun q hq => by simp at hq⟩
  have x26 : Fx P w K mg base 49 ⟨N26, fn26, gloN, kw26⟩ T26 gloD := Fx.up (N := []) (Fx.snoc (Fx.up (N' := []) x25 (by decide)) e25 rfl (by decide +kernel)) (Nat.le_refl _)
  have o26 := ok26 Fn26 x26
  have e26 : FnE P w K mg base 50 "_law_are_sizes" F26 [] := ⟨_, _, _, o26, W.mg_of X hn a26, k26, b26, fun q hq => by simp at hq⟩
  have x27 : Fx P w K mg base 50 ⟨N27, fn27, gloN, kw27⟩ T27 gloD := Fx.up (N := []) (Fx.snoc (Fx.up (N' := []) x26 (by decide)) e26 rfl (by decide +kernel)) (Nat.le_refl _)
  have o27 := ok27 Fn27 x27
  have e27 : FnE P w K mg base 51 "_law_is_bar" F27 [] := ⟨_, _, _, o27, W.mg_of X hn a27, k27, b27, fun q hq => by simp at hq⟩
  have x28 : Fx P w K mg base 51 ⟨N28, fn28, gloN, kw28⟩ T28 gloD := Fx.up (N := []) (Fx.snoc (Fx.up (N' := []) x27 (by decide)) e27 rfl (by decide +kernel)) (Nat.le_refl _)
  have o28 := ok28 Fn28 x28
  have e28 : FnE P w K mg base 52 "_law_is_problem" F28 [] := ⟨_, _, _, o28, W.mg_of X hn a28, k28, b28, fun q hq => by simp at hq⟩
  have x29 : Fx P w K mg base 52 ⟨N29, fn29, gloN, kw29⟩ T29 gloD := Fx.up (N := []) (Fx.snoc (Fx.up (N' := []) x28 (by decide)) e28 rfl (by decide +kernel)) (Nat.le_refl _)
  have o29 := ok29 Fn29 x29
  have e29 : FnE P w K mg base 53 "_law_is_choice" F29 [] := ⟨_, _, _, o29, W.mg_of X hn a29, k29, b29, fun q hq => by simp at hq⟩
  have x30 : Fx P w K mg base 53 ⟨N30, fn30, gloN, kw30⟩ T30 gloD := Fx.up (N := []) (Fx.snoc (Fx.up (N' := []) x29 (by decide)) e29 rfl (by decide +kernel)) (Nat.le_refl _)
  have o30 := ok30 Fn30 x30
  exact o30
end
end K36

set_option Elab.async false
set_option linter.all false
set_option maxRecDepth 100000
set_option maxHeartbeats 1000000
namespace K36
open PySem PySem.Spec PyProof.Rows L2 MP
abbrev deck (L : List Int) (m t : Int) : D := .dct [.inr "cells", .inr "mixed", .inr "turn"] [.lst (intsD L), .int m, .int t]
theorem modB {a b : Int} (h : 0 < b) : 0 ≤ a % b ∧ a % b < b := ⟨Int.emod_nonneg _ (by omega), Int.emod_lt_of_pos _ h⟩
theorem cm1 {a b : Int} (h1 : -(2 ^ 64) < a) (h2 : a < 2 ^ 64) : CMul a b := .inl ⟨h1, h2⟩
theorem cm2 {a b : Int} (h1 : -(2 ^ 64) < b) (h2 : b < 2 ^ 64) : CMul a b := .inr ⟨h1, h2⟩
def DrawOk (f : FnS) : Prop := ∀ (L : List Int) (m t b : Int) (k x : OutK), L.length ≤ 63 → 0 < b → b < 2 ^ 60 → (∀ r L' m' t', 0 ≤ r → r < b → L'.length ≤ 63 → k (.int r) [deck L' m' t', .bot]) → f [deck L m t, .int b] k x
theorem draw_ok {f0 : FnS} : DrawOk (wpF [f0] gloD 2 2 B1) := by
  intro L m t b k x hL h0 hb hk
  refine ⟨⟨rfl, rfl⟩, ?_⟩
  conv => whnf
  (try dsimp only [putOuts, wipeD, List.set_cons_zero, List.set_cons_succ, List.cons_append, List.nil_append, List.replicate_succ, List.replicate_zero])
  refine ⟨by decide, ?_⟩
  conv => whnf
  (try dsimp only [putOuts, wipeD, List.set_cons_zero, List.set_cons_succ, List.cons_append, List.nil_append, List.replicate_succ, List.replicate_zero])
  refine ⟨cm1 (by decide) (by decide), ?_⟩
  conv => whnf
  (try dsimp only [putOuts, wipeD, List.set_cons_zero, List.set_cons_succ, List.cons_append, List.nil_append, List.replicate_succ, List.replicate_zero])
  refine ⟨by decide, ?_⟩
  conv => whnf
  (try dsimp only [putOuts, wipeD, List.set_cons_zero, List.set_cons_succ, List.cons_append, List.nil_append, List.replicate_succ, List.replicate_zero])
  refine ⟨_, _, py_ints (ns := L), rfl, shaped_ints, rfl, ?_⟩
  conv => whnf
  (try dsimp only [putOuts, wipeD, List.set_cons_zero, List.set_cons_succ, List.cons_append, List.nil_append, List.replicate_succ, List.replicate_zero])
  refine ⟨fun hn => ?_, fun hn => ?_⟩
  · have hne : L ≠ [] := by
      rintro rfl
      rw [eqv_nil] at hn
      cases hn
    obtain ⟨L0, c, rfl⟩ : ∃ L0 c, L = L0 ++ [c] := ⟨L.dropLast, L.getLast hne, (List.dropLast_concat_getLast hne).symm⟩
    have eL : intsD (L0 ++ [c]) = intsD L0 ++ [.int c] := by simp [intsD]
    have e1 : (intsD (L0 ++ [c]))[(intsD (L0 ++ [c])).length - 1]? = some (.int c) := by rw [eL]; simp
    have e2 : (intsD (L0 ++ [c])).dropLast = intsD L0 := by rw [eL]; simp
    conv => whnf
    rw [e1, e2]
    repeat ((conv => whnf); first
      | refine ⟨by decide, ?_⟩
      | refine ⟨(by show (0 : Int) < _; decide), ?_⟩
      | refine ⟨cm1 (by decide) (by decide), ?_⟩
      | refine ⟨cm2 (by decide) (by decide), ?_⟩
      | refine ⟨cm1 (Int.lt_of_lt_of_le (by decide) (modB (by decide)).1) (Int.lt_trans (modB (by decide)).2 (by decide)), ?_⟩
      | refine ⟨⟨by decide, by decide⟩, ?_⟩
      | refine ⟨⟨by decide, by decide, by decide⟩, ?_⟩
      | refine ⟨h0, ?_⟩)
    conv => whnf
    have hlen : L0.length < 63 := by simp at hL; omega
    have hi : (intsD L0).length < big := by
      have : big = 16777216 := rfl
      rw [intsD, List.length_map]; omega
    refine ⟨fun _ => ?_, fun _ => ?_⟩
    · have hmx : CDivW c (if b > 2 then b else 2) := by
        split
        · refine ⟨h0, ?_⟩
          have : b.natAbs.log2 < 64 := (Nat.log2_lt (by omega)).mpr (by omega)
          omega
        · exact ⟨by decide, by decide⟩
      conv => whnf
      refine ⟨hmx, ?_⟩
      conv => whnf
      refine ⟨hi, ?_⟩
      conv => whnf
      refine ⟨h0, ?_⟩
      have := hk (c % b) (L0 ++ [c / (if b > 2 then b else 2)]) m (t + 1) (modB h0).1 (modB h0).2 (by simp; omega)
      unfold deck at this
      rw [show intsD (L0 ++ [c / (if b > 2 then b else 2)]) = intsD L0 ++ [.int (c / (if b > 2 then b else 2))] by simp [intsD]] at this
      exact this
    · repeat ((conv => whnf); first
        | refine ⟨by decide, ?_⟩
        | refine ⟨(by show (0 : Int) < _; decide), ?_⟩
        | refine ⟨cm1 (by decide) (by decide), ?_⟩
        | refine ⟨cm2 (by decide) (by decide), ?_⟩
        | refine ⟨cm1 (Int.lt_of_lt_of_le (by decide) (modB (by decide)).1) (Int.lt_trans (modB (by decide)).2 (by decide)), ?_⟩
        | refine ⟨⟨by decide, by decide⟩, ?_⟩
        | refine ⟨⟨by decide, by decide, by decide⟩, ?_⟩
        | refine ⟨h0, ?_⟩)
      exact hk _ L0 _ _ (modB h0).1 (modB h0).2 (by omega)
  · conv => whnf
    refine ⟨cm2 (by decide) (by decide), ?_⟩
    repeat ((conv => whnf); first
      | refine ⟨by decide, ?_⟩
      | refine ⟨(by show (0 : Int) < _; decide), ?_⟩
      | refine ⟨cm1 (by decide) (by decide), ?_⟩
      | refine ⟨cm2 (by decide) (by decide), ?_⟩
      | refine ⟨cm1 (Int.lt_of_lt_of_le (by decide) (modB (by decide)).1) (Int.lt_trans (modB (by decide)).2 (by decide)), ?_⟩
      | refine ⟨⟨by decide, by decide⟩, ?_⟩
      | refine ⟨⟨by decide, by decide, by decide⟩, ?_⟩
      | refine ⟨h0, ?_⟩)
    exact hk _ _ _ _ (modB h0).1 (modB h0).2 hL
theorem cutD_ints {ns : List Int} {lo hi : Option Int} : ∃ L : List Int, MP.cutD (intsD ns) lo hi = intsD L ∧ L.length ≤ ns.length := by
  refine ⟨(ns.drop (HT.sIx (intsD ns).length 0 lo)).take (HT.sIx (intsD ns).length (intsD ns).length hi - HT.sIx (intsD ns).length 0 lo), ?_, ?_⟩
  · unfold MP.cutD
    rw [intsD, intsD, List.map_take, List.map_drop]
  · rw [List.length_take, List.length_drop]; omega
def DeckOk (f : FnS) : Prop := ∀ (ns : List Int) (k x : OutK), ns.length ≤ 63 → (∀ L m t, L.length ≤ 63 → k (deck L m t) [.bot]) → f [scriptD ns] k x
theorem deck_ok  : DeckOk (wpF [] gloD 1 2 B0) := by
  intro ns k x hn hk
  refine ⟨⟨rfl, rfl⟩, ?_⟩
  obtain ⟨L, eL, hL⟩ := cutD_ints (ns := ns) (lo := none) (hi := some 63)
  conv => whnf
  refine ⟨rfl, ?_⟩
  show forL _ _ (MP.cutD (intsD ns) none (some 63)) _ _
  rw [eL]
  refine forL_of (fun _ σ => ∃ m d, σ = [scriptD ns, .int m, d]) ⟨_, _, rfl⟩ (fun _ _ _ => trivial) (fun i d σ k2 hd hi hk2 => ?_) fun σ hi => ?_
  · obtain ⟨m, d0, rfl⟩ := hi
    obtain ⟨z, rfl⟩ : ∃ z, d = .int z := by
      rw [intsD, List.getElem?_map] at hd
      cases q : L[i]? with
      | none => rw [q] at hd; cases hd
      | some z => rw [q] at hd; exact ⟨z, (Option.some.inj hd).symm⟩
    repeat ((conv => whnf); first
      | refine ⟨by decide, ?_⟩
      | refine ⟨(by show (0 : Int) < _; decide), ?_⟩
      | refine ⟨cm1 (by decide) (by decide), ?_⟩
      | refine ⟨cm2 (by decide) (by decide), ?_⟩
      | refine ⟨cm1 (Int.lt_of_lt_of_le (by decide) (modB (by decide)).1) (Int.lt_trans (modB (by decide)).2 (by decide)), ?_⟩
      | refine ⟨⟨by decide, by decide⟩, ?_⟩
      | refine ⟨⟨by decide, by decide, by decide⟩, ?_⟩
      | refine ⟨h0, ?_⟩)
    exact hk2 _ ⟨_, _, rfl⟩
  · obtain ⟨m, d0, rfl⟩ := hi
    conv => whnf
    refine ⟨rfl, ?_⟩
    show forC _ _ (MP.cutD (intsD ns) none (some 63)) _ _ _
    rw [eL]
    refine forC_map some trivial ?_ (fun d k2 hd h2 => ?_) ?_
    · have : big = 16777216 := rfl
      rw [intsD, List.length_map]; omega
    · obtain ⟨z, _, rfl⟩ := List.mem_map.mp hd
      conv => whnf
      refine ⟨fun _ => ?_, fun h => nomatch h⟩
      exact h2
    · rw [List.filterMap_some]
      conv => whnf
      refine ⟨imAll_ints, ?_⟩
      conv => whnf
      refine ⟨⟨by decide +kernel, rfl, by decide⟩, ?_⟩
      have := hk L.reverse m 0 (by rw [List.length_reverse]; omega)
      unfold deck at this
      rw [show intsD L.reverse = (intsD L).reverse by simp [intsD]] at this
      exact this
theorem itemS_im {r : RV} {d e : D} {n : Nat} {k : RV → Prop} (h : d.kids[n]? = some e) (hi : e.im = true) (hk : k (.val e)) : itemS r d n k := by
  unfold itemS
  rw [h]
  simp only [hi]
  exact hk
theorem ixT {ds : List D} {r : Int} (h1 : 0 ≤ r) (h2 : r < ds.length) : ∃ j, ixN ds.length r = some j ∧ j < ds.length := by
  refine ⟨r.toNat, ?_, by omega⟩
  unfold ixN
  rw [if_pos h1, if_pos (by omega)]
/-- a tuple's item is drawn -/
def PickOk (f : FnS) : Prop := ∀ (L : List Int) (m t : Int) (ds : List D) (k x : OutK), L.length ≤ 63 → ds ≠ [] → ds.length < 1000 → imAll ds = true → (∀ d L' m' t', d ∈ ds → L'.length ≤ 63 → k d [deck L' m' t', .bot]) → f [deck L m t, .tup ds] k x
theorem pick_ok {f0 f1 : FnS} (hd : DrawOk f1) : PickOk (wpF [f0, f1] gloD 2 0 B2) := by
  intro L m t ds k x hL hne hlen him hk
  refine ⟨⟨rfl, rfl⟩, ?_⟩
  conv => whnf
  have hpos : 0 < ds.length := List.length_pos_iff.mpr hne
  refine hd L m t ds.length _ _ hL (by omega) (by omega) fun r L' m' t' h1 h2 h3 => ?_
  obtain ⟨j, hj, hjl⟩ := ixT h1 h2
  have hj : ixOf (.tup ds) (.int r) = some j := hj
  have hm : ds[j]? = some ds[j] := List.getElem?_eq_getElem hjl
  have hi : ds[j].im = true := imAll_get him hm
  conv => whnf
  rw [hj]
  refine itemS_im (e := ds[j]) hm hi ?_
  exact hk _ L' m' t' (List.getElem_mem hjl) h3
end K36

set_option Elab.async false
set_option linter.all false
set_option maxRecDepth 100000
set_option maxHeartbeats 1000000
namespace K36
open PySem PySem.Spec PyProof.Rows L2 MP
theorem perm_erase {α : Type} : ∀ {l : List α} {j : Nat} (h : j < l.length), (l[j] :: l.eraseIdx j).Perm l
  | x :: xs, 0, _ => .refl _
  | x :: xs, j + 1, h => by
    have h' : j < xs.length := by simpa using h
    show (xs[j] :: x :: xs.eraseIdx j).Perm (x :: xs)
    exact (List.Perm.swap x xs[j] _).trans (List.Perm.cons x (perm_erase h'))
def ShufOk (f : FnS) : Prop := ∀ (L : List Int) (m t : Int) (ds : List D) (k x : OutK), L.length ≤ 63 → ds.length < 100000 → imAll ds = true → (∀ d ∈ ds, lay d) → (∀ ds' L' m' t', ds'.Perm ds → L'.length ≤ 63 → k (.lst ds') [deck L' m' t', .lst ds]) → f [deck L m t, .lst ds] k x
theorem shuf_ok {f0 f1 f2 f3 : FnS} (hd : DrawOk f1) : ShufOk (wpF [f0, f1, f2, f3] gloD 2 2 B4) := by
  intro L m t ds k x hL hlen him hlay hk
  refine ⟨⟨rfl, rfl⟩, ?_⟩
  conv => whnf
  (try dsimp only [putOuts, wipeD, List.set_cons_zero, List.set_cons_succ, List.cons_append, List.nil_append, List.replicate_succ, List.replicate_zero])
  refine ⟨him, ?_⟩
  conv => whnf
  (try dsimp only [putOuts, wipeD, List.set_cons_zero, List.set_cons_succ, List.cons_append, List.nil_append, List.replicate_succ, List.replicate_zero])
  refine ⟨Nat.le_of_ble_eq_true rfl, ?_⟩
  conv => whnf
  (try dsimp only [putOuts, wipeD, List.set_cons_zero, List.set_cons_succ, List.cons_append, List.nil_append, List.replicate_succ, List.replicate_zero])
  refine ⟨fun n σ => ∃ (left found : List D) (L' : List Int) (m' t' : Int), σ = [deck L' m' t', .lst ds, .lst left, .lst found] ∧ left.length = n ∧ (found ++ left).Perm ds ∧ L'.length ≤ 63, ⟨ds.length, ds, [], L, m, t, rfl, rfl, .refl _, hL⟩, ?_⟩
  rintro n σ ⟨left, found, L', m', t', rfl, hn, hp, hL'⟩
  have hl : left.length ≤ ds.length := by
    have := hp.length_eq
    rw [List.length_append] at this
    omega
  have hf : found.length ≤ ds.length := by
    have := hp.length_eq
    rw [List.length_append] at this
    omega
  have eb : big = 16777216 := rfl
  obtain ⟨xs, e1, e2, e3⟩ := lay_list (ds := left) fun d hd => hlay d (hp.mem_iff.mp (List.mem_append_right _ hd))
  conv => whnf
  (try dsimp only [putOuts, wipeD, List.set_cons_zero, List.set_cons_succ, List.cons_append, List.nil_append, List.replicate_succ, List.replicate_zero])
  refine ⟨Nat.le_of_ble_eq_true rfl, ?_⟩
  conv => whnf
  (try dsimp only [putOuts, wipeD, List.set_cons_zero, List.set_cons_succ, List.cons_append, List.nil_append, List.replicate_succ, List.replicate_zero])
  refine ⟨_, _, e1, rfl, e2, rfl, ?_⟩
  rw [e3]
  conv => whnf
  (try dsimp only [putOuts, wipeD, List.set_cons_zero, List.set_cons_succ, List.cons_append, List.nil_append, List.replicate_succ, List.replicate_zero])
  refine ⟨fun h => ?_, fun h => ?_⟩
  · have hne : left ≠ [] := by
      rintro rfl
      cases h
    have hpos : 0 < left.length := List.length_pos_iff.mpr hne
    conv => whnf
    (try dsimp only [putOuts, wipeD, List.set_cons_zero, List.set_cons_succ, List.cons_append, List.nil_append, List.replicate_succ, List.replicate_zero])
    refine hd L' m' t' left.length _ _ hL' (by omega) (by omega) fun r L2 m2 t2 h1 h2 h3 => ?_
    obtain ⟨j, hj, hjl⟩ := ixT h1 h2
    have hm : left[j]? = some left[j] := List.getElem?_eq_getElem hjl
    conv => whnf
    (try dsimp only [putOuts, wipeD, List.set_cons_zero, List.set_cons_succ, List.cons_append, List.nil_append, List.replicate_succ, List.replicate_zero])
    rw [hj]
    conv => whnf
    (try dsimp only [putOuts, wipeD, List.set_cons_zero, List.set_cons_succ, List.cons_append, List.nil_append, List.replicate_succ, List.replicate_zero])
    rw [hm]
    conv => whnf
    (try dsimp only [putOuts, wipeD, List.set_cons_zero, List.set_cons_succ, List.cons_append, List.nil_append, List.replicate_succ, List.replicate_zero])
    refine ⟨by omega, ?_⟩
    conv => whnf
    (try dsimp only [putOuts, wipeD, List.set_cons_zero, List.set_cons_succ, List.cons_append, List.nil_append, List.replicate_succ, List.replicate_zero])
    refine ⟨by omega, ?_⟩
    refine ⟨n - 1, by omega, left.eraseIdx j, found ++ [left[j]], L2, m2, t2, rfl, by rw [List.length_eraseIdx_of_lt hjl]; omega, ?_, h3⟩
    rw [List.append_assoc]
    exact (List.Perm.append_left found (perm_erase hjl)).trans hp
  · have hne : left = [] := by
      cases left with
      | nil => rfl
      | cons _ _ => cases h
    subst hne
    conv => whnf
    (try dsimp only [putOuts, wipeD, List.set_cons_zero, List.set_cons_succ, List.cons_append, List.nil_append, List.replicate_succ, List.replicate_zero])
    exact hk found L' m' t' (by simpa using hp) hL'
/-! the drawn problem: sizes, terms, bars -/
def okSize (z : Int) : Prop := 1 ≤ z ∧ z ≤ 12
def prodL (zs : List Int) : Int := zs.foldl (· * ·) 1
theorem prodL_snoc {zs : List Int} {z : Int} : prodL (zs ++ [z]) = prodL zs * z := by simp [prodL]
def SizesOk (f : FnS) : Prop := ∀ (L : List Int) (m t : Int) (ma : Int) (k x : OutK), L.length ≤ 63 → 0 ≤ ma → ma ≤ 8 → (∀ zs L' m' t', zs.length ≤ 8 → (∀ z ∈ zs, okSize z) → prodL zs ≤ 300 → L'.length ≤ 63 → k (tupI zs) [deck L' m' t', .bot, .bot]) → f [deck L m t, .int 300, .int ma] k x
theorem sizes_ok {f0 f1 f2 : FnS} (hd : DrawOk f1) (hp : PickOk f2) : SizesOk (wpF [f0, f1, f2] gloD 3 4 B3) := by
  intro L m t ma k x hL hma0 hma8 hk
  refine ⟨⟨rfl, rfl⟩, ?_⟩
  conv => whnf
  (try dsimp only [putOuts, wipeD, List.set_cons_zero, List.set_cons_succ, List.cons_append, List.nil_append, List.replicate_succ, List.replicate_zero])
  refine ⟨Nat.le_of_ble_eq_true rfl, ?_⟩
  conv => whnf
  (try dsimp only [putOuts, wipeD, List.set_cons_zero, List.set_cons_succ, List.cons_append, List.nil_append, List.replicate_succ, List.replicate_zero])
  refine hd L m t _ _ _ hL (by omega) (by omega) fun r L1 m1 t1 hr1 hr2 hL1 => ?_
  have hr2 : r < ma + 1 := hr2
  conv => whnf
  (try dsimp only [putOuts, wipeD, List.set_cons_zero, List.set_cons_succ, List.cons_append, List.nil_append, List.replicate_succ, List.replicate_zero])
  refine ⟨⟨by decide, by decide, by omega, by omega⟩, rfl, ?_⟩
  refine forL_of (fun i σ => ∃ (zs : List Int) (p : Int) (L' : List Int) (m' t' : Int) (d e : D), σ = [deck L' m' t', .int 300, .int ma, d, .lst (intsD zs), .int p, e] ∧ zs.length ≤ i ∧ i ≤ r.toNat ∧ (∀ z ∈ zs, okSize z) ∧ L'.length ≤ 63 ∧ 0 ≤ p ∧ p ≤ 300 ∧ p = prodL zs) ⟨[], 1, L1, m1, t1, .bot, .bot, rfl, Nat.le_refl _, Nat.zero_le _, (fun z h => nomatch h), hL1, by decide, by decide, rfl⟩ (fun _ _ _ => trivial) (fun i d σ k2 hd2 hi hk2 => ?_) fun σ hi => ?_
  · obtain ⟨zs, p, L', m', t', d0, e0, rfl, hz, hir, hzs, hL', hp0, hp1, hpe⟩ := hi
    obtain ⟨hi2, rfl⟩ := intsUp_get hd2
    have hi3 : i < r.toNat := by simpa using hi2
    conv => whnf
    (try dsimp only [putOuts, wipeD, List.set_cons_zero, List.set_cons_succ, List.cons_append, List.nil_append, List.replicate_succ, List.replicate_zero])
    refine ⟨⟨rfl, Nat.le_of_ble_eq_true rfl⟩, ?_⟩
    conv => whnf
    (try dsimp only [putOuts, wipeD, List.set_cons_zero, List.set_cons_succ, List.cons_append, List.nil_append, List.replicate_succ, List.replicate_zero])
    refine hp L' m' t' _ _ _ hL' (by simp) (by decide) rfl fun d L2 m2 t2 hd3 hL2 => ?_
    obtain ⟨z, rfl, hz1⟩ : ∃ z, d = .int z ∧ okSize z := by
      simp only [List.mem_cons, List.not_mem_nil, or_false] at hd3
      rcases hd3 with rfl | rfl | rfl | rfl | rfl | rfl | rfl | rfl | rfl <;> exact ⟨_, rfl, by decide, by decide⟩
    have hz2 := hz1.1
    have hz3 := hz1.2
    conv => whnf
    (try dsimp only [putOuts, wipeD, List.set_cons_zero, List.set_cons_succ, List.cons_append, List.nil_append, List.replicate_succ, List.replicate_zero])
    refine ⟨cm1 (by omega) (by omega), ?_⟩
    conv => whnf
    (try dsimp only [putOuts, wipeD, List.set_cons_zero, List.set_cons_succ, List.cons_append, List.nil_append, List.replicate_succ, List.replicate_zero])
    refine ⟨fun hle => ?_, fun _ => ?_⟩
    · have hle : p * z ≤ 300 := of_decide_eq_true hle
      conv => whnf
      (try dsimp only [putOuts, wipeD, List.set_cons_zero, List.set_cons_succ, List.cons_append, List.nil_append, List.replicate_succ, List.replicate_zero])
      have eb : big = 16777216 := rfl
      refine ⟨by rw [intsD, List.length_map]; omega, ?_⟩
      conv => whnf
      (try dsimp only [putOuts, wipeD, List.set_cons_zero, List.set_cons_succ, List.cons_append, List.nil_append, List.replicate_succ, List.replicate_zero])
      refine ⟨cm1 (by omega) (by omega), ?_⟩
      refine hk2 _ ⟨zs ++ [z], p * z, L2, m2, t2, .int (0 + i), .int z, ?_, by simp; omega, by omega, fun y hy => ?_, hL2, Int.mul_nonneg hp0 (by omega), hle, by rw [prodL_snoc, hpe]⟩
      · rw [intsD, intsD, List.map_append]; rfl
      · rcases List.mem_append.mp hy with h | h
        · exact hzs y h
        · have : y = z := by simpa using h
          subst this; exact hz1
    · exact hk2 _ ⟨zs, p, L2, m2, t2, .int (0 + i), .int z, rfl, by omega, by omega, hzs, hL2, hp0, hp1, hpe⟩
  · obtain ⟨zs, p, L', m', t', d0, e0, rfl, hz, hir, hzs, hL', hp0, hp1, hpe⟩ := hi
    conv => whnf
    (try dsimp only [putOuts, wipeD, List.set_cons_zero, List.set_cons_succ, List.cons_append, List.nil_append, List.replicate_succ, List.replicate_zero])
    refine ⟨imAll_ints, ?_⟩
    exact hk zs L' m' t' (by rw [intsUp_len] at hz; omega) hzs (by rw [← hpe]; exact hp1) hL'
end K36

set_option Elab.async false
set_option linter.all false
set_option maxRecDepth 100000
set_option maxHeartbeats 1000000
namespace K36
open PySem PySem.Spec PyProof.Rows L2 MP
def intOf : D → Option Int
  | .int i => some i
  | _ => none
theorem ints_of_map : ∀ {ms : List Int}, (intsD ms).filterMap intOf = ms
  | [] => rfl
  | m :: ms => by
    show m :: (intsD ms).filterMap intOf = _
    rw [ints_of_map]
theorem perm_ints {ds : List D} {ms : List Int} (h : ds.Perm (intsD ms)) : ∃ ns : List Int, ds = intsD ns ∧ ns.Perm ms := by
  refine ⟨ds.filterMap intOf, ?_, ?_⟩
  · have hall : ∀ d ∈ ds, ∃ i, d = .int i := fun d hd => by
      obtain ⟨i, _, e⟩ := List.mem_map.mp (h.mem_iff.mp hd)
      exact ⟨i, e.symm⟩
    clear h
    induction ds with
    | nil => rfl
    | cons d ds ih =>
      obtain ⟨i, rfl⟩ := hall d List.mem_cons_self
      show _ = D.int i :: intsD (ds.filterMap intOf)
      rw [← ih fun x hx => hall x (List.mem_cons_of_mem _ hx)]
  · have := h.filterMap intOf
    rwa [ints_of_map] at this
theorem cut_headD {ds : List D} {h : Int} (h0 : 0 ≤ h) : MP.cutD ds none (some h) = ds.take h.toNat := by
  unfold MP.cutD
  show (ds.drop 0).take ((if h < 0 then (h + (ds.length : Int)).toNat else min h.toNat ds.length) - 0) = _
  rw [if_neg (by omega), List.drop_zero, Nat.sub_zero]
  by_cases hl : h.toNat ≤ ds.length
  · rw [Nat.min_eq_left hl]
  · rw [Nat.min_eq_right (by omega), List.take_of_length_le (Nat.le_refl _), List.take_of_length_le (by omega)]
theorem cut_head {ms : List Int} {h : Int} (h0 : 0 ≤ h) : MP.cutD (intsD ms) none (some h) = intsD (ms.take h.toNat) := by
  rw [cut_headD h0, intsD, intsD, List.map_take]
/-- the first ints -/
def upto (n : Nat) : List Int := (List.range n).map fun (m : Nat) => (0 : Int) + m
theorem intsUp_eq {n : Nat} : intsUp 0 n = intsD (upto n) := by
  unfold intsUp intsD upto
  rw [List.map_map]; rfl
theorem upto_mem {n : Nat} {x : Int} (h : x ∈ upto n) : 0 ≤ x ∧ x < n := by
  obtain ⟨m, hm, rfl⟩ := List.mem_map.mp h
  have := List.mem_range.mp hm
  omega
theorem upto_nodup {n : Nat} : (upto n).Nodup := by
  unfold upto
  rw [List.Nodup, List.pairwise_map]
  exact List.Pairwise.imp (fun {a b} h => by omega) List.nodup_range
theorem upto_len {n : Nat} : (upto n).length = n := by simp [upto]
theorem rising {ns : List Int} (h : ns.Pairwise (· ≤ ·)) (hn : ns.Nodup) : ns.Pairwise (· < ·) :=
  (List.pairwise_and_iff.mpr ⟨h, hn⟩).imp fun {a b} ⟨h1, h2⟩ => by omega
def okMarks (size : Int) (ns : List Int) : Prop := ns.Pairwise (· < ·) ∧ (∀ x ∈ ns, 0 ≤ x ∧ x < size) ∧ 1 ≤ ns.length ∧ (ns.length : Int) < size
def termD (i : Int) (ns : List Int) : D := .tup [.int i, tupI ns]
def TermOk (f : FnS) : Prop := ∀ (L : List Int) (m t i size : Int) (k x : OutK), L.length ≤ 63 → 2 ≤ size → size ≤ 12 → (∀ ns L' m' t', okMarks size ns → L'.length ≤ 63 → k (termD i ns) [deck L' m' t', .bot, .bot]) → f [deck L m t, .int i, .int size] k x
theorem term_ok {f0 f1 f2 f3 f4 : FnS} (hd : DrawOk f1) (hs : ShufOk f4) : TermOk (wpF [f0, f1, f2, f3, f4] gloD 3 1 B5) := by
  intro L m t i size k x hL hs1 hs2 hk
  refine ⟨⟨rfl, rfl⟩, ?_⟩
  conv => whnf
  (try dsimp only [putOuts, wipeD, List.set_cons_zero, List.set_cons_succ, List.cons_append, List.nil_append, List.replicate_succ, List.replicate_zero])
  refine ⟨⟨by omega, by omega⟩, ?_⟩
  conv => whnf
  (try dsimp only [putOuts, wipeD, List.set_cons_zero, List.set_cons_succ, List.cons_append, List.nil_append, List.replicate_succ, List.replicate_zero])
  rw [intsUp_eq]
  refine hs L m t (intsD (upto size.toNat)) _ _ hL (by rw [intsD, List.length_map, upto_len]; omega) imAll_ints (fun d hd => by
    obtain ⟨z, _, rfl⟩ := List.mem_map.mp hd
    exact lay_int) fun ds L1 m1 t1 hp hL1 => ?_
  obtain ⟨ms, rfl, hq⟩ := perm_ints hp
  conv => whnf
  (try dsimp only [putOuts, wipeD, List.set_cons_zero, List.set_cons_succ, List.cons_append, List.nil_append, List.replicate_succ, List.replicate_zero])
  refine hd L1 m1 t1 (size - 1) _ _ hL1 (by omega) (by omega) fun r L2 m2 t2 hr1 hr2 hL2 => ?_
  conv => whnf
  (try dsimp only [putOuts, wipeD, List.set_cons_zero, List.set_cons_succ, List.cons_append, List.nil_append, List.replicate_succ, List.replicate_zero])
  rw [cut_head (by omega : (0 : Int) ≤ 1 + r)]
  refine ⟨imAll_ints, ?_⟩
  conv => whnf
  (try dsimp only [putOuts, wipeD, List.set_cons_zero, List.set_cons_succ, List.cons_append, List.nil_append, List.replicate_succ, List.replicate_zero])
  refine .inl ⟨ms.take (1 + r).toNat, ints_some, fun ns hns hle => ?_⟩
  have hlen : ms.length = size.toNat := by rw [hq.length_eq, upto_len]
  have nd : ns.Nodup := hns.nodup_iff.mpr ((hq.nodup_iff.mpr upto_nodup).sublist (List.take_sublist _ _))
  have hok : okMarks size ns := by
    refine ⟨rising hle nd, fun y hy => ?_, ?_, ?_⟩
    · have := upto_mem (hq.mem_iff.mp (List.mem_of_mem_take (hns.mem_iff.mp hy)))
      omega
    · rw [hns.length_eq, List.length_take]; omega
    · rw [hns.length_eq, List.length_take]; omega
  conv => whnf
  (try dsimp only [putOuts, wipeD, List.set_cons_zero, List.set_cons_succ, List.cons_append, List.nil_append, List.replicate_succ, List.replicate_zero])
  refine ⟨imAll_ints, ?_⟩
  conv => whnf
  (try dsimp only [putOuts, wipeD, List.set_cons_zero, List.set_cons_succ, List.cons_append, List.nil_append, List.replicate_succ, List.replicate_zero])
  refine ⟨⟨rfl, Nat.le_of_ble_eq_true rfl⟩, ?_⟩
  exact hk ns L2 m2 t2 hok hL2
/-- a bar as the draws make one: places that rise, each with marks below its size -/
def okBar (zs : List Int) (b : List (Int × List Int)) : Prop := (b.map (·.1)).Pairwise (· < ·) ∧ ∀ q ∈ b, 0 ≤ q.1 ∧ q.1 < zs.length ∧ ∃ z, zs[q.1.toNat]? = some z ∧ okMarks z q.2
def barD (b : List (Int × List Int)) : D := .tup (b.map fun q => termD q.1 q.2)
def BarOk (f : FnS) : Prop := ∀ (L : List Int) (m t most : Int) (zs : List Int) (k x : OutK), L.length ≤ 63 → zs.length ≤ 8 → (∀ z ∈ zs, okSize z) → 0 ≤ most → most ≤ 100 → (∀ b L' m' t', okBar zs b → b.length ≤ 8 → L'.length ≤ 63 → k (barD b) [deck L' m' t', .bot, .bot]) → f [deck L m t, tupI zs, .int most] k x
def placeG : D → Option D
  | .pr [.int i, .int z] => if 1 < z then some (.int i) else none
  | _ => none
def places : List Int → Nat → List Int
  | [], _ => []
  | z :: zs, n => if 1 < z then (n : Int) :: places zs (n + 1) else places zs (n + 1)
theorem places_eq : ∀ {zs : List Int} {n : Nat}, (enumD (intsD zs) n).filterMap placeG = intsD (places zs n)
  | [], n => rfl
  | z :: zs, n => by
    show ((D.pr [.int n, .int z]) :: enumD (intsD zs) (n + 1)).filterMap placeG = _
    rw [List.filterMap_cons]
    unfold places
    by_cases h : 1 < z
    · rw [show placeG (.pr [.int n, .int z]) = some (.int n) from if_pos h, if_pos h]
      show D.int n :: _ = D.int n :: _
      rw [places_eq]; rfl
    · rw [show placeG (.pr [.int n, .int z]) = none from if_neg h, if_neg h]
      exact places_eq
theorem places_mem : ∀ {zs : List Int} {n : Nat} {x : Int}, x ∈ places zs n → ∃ j z, x = ((n + j : Nat) : Int) ∧ zs[j]? = some z ∧ 1 < z
  | [], n, x, h => by cases h
  | z :: zs, n, x, h => by
    unfold places at h
    have tl : x ∈ places zs (n + 1) → ∃ j y, x = ((n + j : Nat) : Int) ∧ (z :: zs)[j]? = some y ∧ 1 < y := fun h => by
      obtain ⟨j, y, e, h1, h2⟩ := places_mem h
      exact ⟨j + 1, y, by rw [e]; omega, by simpa using h1, h2⟩
    by_cases hz : 1 < z
    · rw [if_pos hz] at h
      rcases List.mem_cons.mp h with h | h
      · exact ⟨0, z, h, rfl, hz⟩
      · exact tl h
    · rw [if_neg hz] at h
      exact tl h
theorem places_rise : ∀ {zs : List Int} {n : Nat}, (places zs n).Pairwise (· < ·)
  | [], n => .nil
  | z :: zs, n => by
    unfold places
    by_cases hz : 1 < z
    · rw [if_pos hz]
      refine .cons (fun y hy => ?_) places_rise
      obtain ⟨j, _, e, _, _⟩ := places_mem hy
      omega
    · rw [if_neg hz]
      exact places_rise
theorem places_len : ∀ {zs : List Int} {n : Nat}, (places zs n).length ≤ zs.length
  | [], n => Nat.le_refl _
  | z :: zs, n => by
    unfold places
    have := places_len (zs := zs) (n := n + 1)
    split <;> simp <;> omega
end K36

set_option Elab.async false
set_option linter.all false
set_option maxRecDepth 100000
set_option maxHeartbeats 1000000
namespace K36
open PySem PySem.Spec PyProof.Rows L2 MP
theorem enum_mem : ∀ {zs : List Int} {n : Nat} {d : D}, d ∈ enumD (intsD zs) n → ∃ (j : Nat) (z : Int), d = .pr [.int j, .int z]
  | [], n, d, h => by cases h
  | z :: zs, n, d, h => by
    rcases List.mem_cons.mp (show d ∈ D.pr [.int n, .int z] :: enumD (intsD zs) (n + 1) from h) with h | h
    · exact ⟨n, z, h⟩
    · exact enum_mem h
theorem imAll_terms : ∀ {b : List (Int × List Int)}, imAll (b.map fun q => termD q.1 q.2) = true
  | [] => rfl
  | q :: b => by
    show (true && imAll (b.map fun q => termD q.1 q.2)) = true
    rw [imAll_terms]; rfl
theorem bar_ok {f0 f1 f2 f3 f4 f5 : FnS} (hp : PickOk f2) (hs : ShufOk f4) (ht : TermOk f5) : BarOk (wpF [f0, f1, f2, f3, f4, f5] gloD 3 4 B6) := by
  intro L m t most zs k x hL hzl hzs hm0 hm1 hk
  refine ⟨⟨rfl, rfl⟩, ?_⟩
  have eb : big = 16777216 := rfl
  conv => whnf
  (try dsimp only [putOuts, wipeD, List.set_cons_zero, List.set_cons_succ, List.cons_append, List.nil_append, List.replicate_succ, List.replicate_zero])
  refine ⟨⟨imAll_ints, trivial⟩, rfl, ?_⟩
  refine forC_map placeG trivial (by rw [enumD_len, intsD, List.length_map]; omega) (fun d k2 hd hk2 => ?_) ?_
  · obtain ⟨j, z, rfl⟩ := enum_mem hd
    conv => whnf
    (try dsimp only [putOuts, wipeD, List.set_cons_zero, List.set_cons_succ, List.cons_append, List.nil_append, List.replicate_succ, List.replicate_zero])
    refine ⟨fun h => ?_, fun h => ?_⟩
    · rw [show placeG (.pr [.int j, .int z]) = some (.int j) from if_pos (of_decide_eq_true h)] at hk2
      exact hk2
    · rw [show placeG (.pr [.int j, .int z]) = none from if_neg (of_decide_eq_false h)] at hk2
      exact hk2
  rw [places_eq]
  conv => whnf
  (try dsimp only [putOuts, wipeD, List.set_cons_zero, List.set_cons_succ, List.cons_append, List.nil_append, List.replicate_succ, List.replicate_zero])
  refine hs L m t (intsD (places zs 0)) _ _ hL (by rw [intsD, List.length_map]; have := places_len (zs := zs) (n := 0); omega) imAll_ints (fun d hd => by
    obtain ⟨z, _, rfl⟩ := List.mem_map.mp hd
    exact lay_int) fun ds L1 m1 t1 hq hL1 => ?_
  obtain ⟨ms, rfl, hq2⟩ := perm_ints hq
  conv => whnf
  (try dsimp only [putOuts, wipeD, List.set_cons_zero, List.set_cons_succ, List.cons_append, List.nil_append, List.replicate_succ, List.replicate_zero])
  refine ⟨⟨rfl, Nat.le_of_ble_eq_true rfl⟩, ?_⟩
  conv => whnf
  (try dsimp only [putOuts, wipeD, List.set_cons_zero, List.set_cons_succ, List.cons_append, List.nil_append, List.replicate_succ, List.replicate_zero])
  refine hp L1 m1 t1 _ _ _ hL1 (by simp) (Nat.le_of_ble_eq_true rfl) rfl fun d L2 m2 t2 hd2 hL2 => ?_
  obtain ⟨h, rfl, hh⟩ : ∃ h, d = .int h ∧ 0 ≤ h := by
    simp only [List.mem_cons, List.not_mem_nil, or_false] at hd2
    rcases hd2 with rfl | rfl | rfl | rfl | rfl | rfl | rfl
    all_goals first
      | exact ⟨_, rfl, by decide⟩
      | exact ⟨_, rfl, hm0⟩
  conv => whnf
  (try dsimp only [putOuts, wipeD, List.set_cons_zero, List.set_cons_succ, List.cons_append, List.nil_append, List.replicate_succ, List.replicate_zero])
  rw [cut_head hh]
  refine ⟨imAll_ints, ?_⟩
  conv => whnf
  (try dsimp only [putOuts, wipeD, List.set_cons_zero, List.set_cons_succ, List.cons_append, List.nil_append, List.replicate_succ, List.replicate_zero])
  refine .inl ⟨ms.take h.toNat, ints_some, fun ns hns hle => ?_⟩
  have nd : ns.Nodup := hns.nodup_iff.mpr ((hq2.nodup_iff.mpr (places_rise.imp fun {a b} h => by omega)).sublist (List.take_sublist _ _))
  have hrise := rising hle nd
  have hmem : ∀ y ∈ ns, ∃ j z, y = ((0 + j : Nat) : Int) ∧ zs[j]? = some z ∧ 1 < z := fun y hy =>
    places_mem (hq2.mem_iff.mp (List.mem_of_mem_take (hns.mem_iff.mp hy)))
  have hnl : ns.length ≤ 8 := by
    have h1 := hns.length_eq
    have h2 := hq2.length_eq
    have h3 := places_len (zs := zs) (n := 0)
    rw [List.length_take] at h1
    omega
  conv => whnf
  (try dsimp only [putOuts, wipeD, List.set_cons_zero, List.set_cons_succ, List.cons_append, List.nil_append, List.replicate_succ, List.replicate_zero])
  rw [show MP.cutD (List.map D.int ns) none (some most) = intsD (ns.take most.toNat) from cut_head hm0]
  refine ⟨imAll_ints, rfl, ?_⟩
  refine forC_of (fun i acc σ => ∃ (b : List (Int × List Int)) (L' : List Int) (m' t' : Int), acc = b.map (fun q => termD q.1 q.2) ∧ b.map (·.1) = (ns.take most.toNat).take i ∧ (∀ q ∈ b, 0 ≤ q.1 ∧ q.1 < zs.length ∧ ∃ z, zs[q.1.toNat]? = some z ∧ okMarks z q.2) ∧ L'.length ≤ 63 ∧
      σ = [deck L' m' t', tupI zs, .int most, .lst (intsD (places zs 0)), .lst (intsD ns), .bot, .bot]) ⟨[], L2, m2, t2, rfl, rfl, (fun q h => nomatch h), hL2, rfl⟩ (fun _ _ _ _ => trivial) (fun i d acc σ k2 hd hi h1 h2 => ?_) (fun i acc σ hi hI => ?_) fun acc σ hI => ?_
  · obtain ⟨b, L', m', t', rfl, hb1, hb2, hL', rfl⟩ := hi
    obtain ⟨y, hy, rfl⟩ : ∃ y, (ns.take most.toNat)[i]? = some y ∧ d = .int y := by
      rw [intsD, List.getElem?_map] at hd
      obtain ⟨y, hy, e⟩ := Option.map_eq_some_iff.mp hd
      exact ⟨y, hy, e.symm⟩
    obtain ⟨j, z, ej, hz, hz1⟩ := hmem y (List.mem_of_mem_take (List.mem_of_getElem? hy))
    have hzok := hzs z (List.mem_of_getElem? hz)
    have hjl : j < zs.length := (List.getElem?_eq_some_iff.mp hz).1
    have ey : y = (j : Int) := by omega
    have hix : ixOf (tupI zs) (.int y) = some j := by
      show ixN (intsD zs).length y = some j
      unfold ixN
      rw [if_pos (by omega), if_pos (by rw [intsD, List.length_map]; omega), ey, Int.toNat_natCast]
    have hkid : (intsD zs)[j]? = some (.int z) := by rw [intsD, List.getElem?_map, hz]; rfl
    conv => whnf
    (try dsimp only [putOuts, wipeD, List.set_cons_zero, List.set_cons_succ, List.cons_append, List.nil_append, List.replicate_succ, List.replicate_zero])
    refine ⟨fun _ => ?_, fun h => nomatch h⟩
    conv => whnf
    (try dsimp only [putOuts, wipeD, List.set_cons_zero, List.set_cons_succ, List.cons_append, List.nil_append, List.replicate_succ, List.replicate_zero])
    rw [hix]
    refine itemS_im (e := .int z) hkid rfl ?_
    conv => whnf
    (try dsimp only [putOuts, wipeD, List.set_cons_zero, List.set_cons_succ, List.cons_append, List.nil_append, List.replicate_succ, List.replicate_zero])
    refine ht L' m' t' y z _ _ hL' (by omega) hzok.2 fun mk L3 m3 t3 hmk hL3 => ?_
    conv => whnf
    (try dsimp only [putOuts, wipeD, List.set_cons_zero, List.set_cons_succ, List.cons_append, List.nil_append, List.replicate_succ, List.replicate_zero])
    refine h1 _ _ ⟨b ++ [(y, mk)], L3, m3, t3, by rw [List.map_append]; rfl, ?_, fun q hq => ?_, hL3, rfl⟩
    · rw [List.map_append, hb1, List.take_succ, hy]; rfl
    · rcases List.mem_append.mp hq with h | h
      · exact hb2 q h
      · have : q = (y, mk) := by simpa using h
        subst this
        exact ⟨by show 0 ≤ y; omega, by show y < _; omega, z, by show zs[y.toNat]? = _; rw [ey, Int.toNat_natCast]; exact hz, hmk⟩
  · obtain ⟨b, L', m', t', rfl, hb1, _⟩ := hI
    have := congrArg List.length hb1
    rw [List.length_map] at this
    rw [List.length_map, this]
    have h3 : ((ns.take most.toNat).take i).length ≤ ns.length := by rw [List.length_take, List.length_take]; omega
    omega
  · obtain ⟨b, L', m', t', rfl, hb1, hb2, hL', rfl⟩ := hI
    conv => whnf
    (try dsimp only [putOuts, wipeD, List.set_cons_zero, List.set_cons_succ, List.cons_append, List.nil_append, List.replicate_succ, List.replicate_zero])
    refine ⟨imAll_terms, ?_⟩
    have hbl : b.length ≤ 8 := by
      have := congrArg List.length hb1
      rw [List.length_map] at this
      have h3 : ((ns.take most.toNat).take (intsD (ns.take most.toNat)).length).length ≤ ns.length := by rw [List.length_take, List.length_take]; omega
      omega
    refine hk b L' m' t' ⟨?_, hb2⟩ hbl hL'
    rw [hb1]
    exact (hrise.sublist (List.take_sublist _ _)).sublist (List.take_sublist _ _)
end K36

set_option Elab.async false
set_option linter.all false
set_option maxRecDepth 100000
set_option maxHeartbeats 1000000
namespace K36
open PySem PySem.Spec PyProof.Rows L2 MP
def termP (q : Int × List Int) : PyData := .tuple [.int q.1, .tuple (q.2.map PyData.int)]
theorem pyAll_bar : ∀ {b : List (Int × List Int)}, pyAll (b.map fun q => termD q.1 q.2) = some (b.map termP) ∧ PyData.canLayAll0 (b.map termP) = true ∧ PyData.depthAll (b.map termP) ≤ 2
  | [] => ⟨rfl, rfl, Nat.zero_le _⟩
  | q :: b => by
    obtain ⟨h1, h2, h3⟩ := pyAll_bar (b := b)
    have e : py (termD q.1 q.2) = some (termP q) := by
      show (pyAll [D.int q.1, tupI q.2]).map PyData.tuple = _
      show (((py (.int q.1)).bind fun y => ((py (tupI q.2)).bind fun z => (pyAll []).map (z :: ·)).map (y :: ·))).map PyData.tuple = _
      rw [py_tupI]; rfl
    refine ⟨?_, ?_, ?_⟩
    · show ((py (termD q.1 q.2)).bind fun y => (pyAll (b.map fun q => termD q.1 q.2)).map (y :: ·)) = _
      rw [h1, e]; rfl
    · show (PyData.canLay0 (termP q) && PyData.canLayAll0 (b.map termP)) = true
      rw [h2]
      simp [termP, PyData.canLay0, PyData.canLayAll0, canLay_ints]
    · show max (PyData.depth (termP q)) (PyData.depthAll (b.map termP)) ≤ 2
      have : PyData.depth (termP q) ≤ 2 := by simp [termP, PyData.depth, PyData.depthAll, depth_ints]
      omega
theorem bar_py {b : List (Int × List Int)} : py (barD b) = some (.tuple (b.map termP)) ∧ SeqAt.shaped (.tuple (b.map termP)) = true := by
  obtain ⟨h1, h2, h3⟩ := pyAll_bar (b := b)
  refine ⟨?_, ?_⟩
  · show (pyAll (b.map fun q => termD q.1 q.2)).map PyData.tuple = _
    rw [h1]; rfl
  · unfold SeqAt.shaped PyData.canLay0 PyData.depth
    rw [h2]
    simp only [Bool.true_and, decide_eq_true_eq]
    omega
def problemD (zs : List Int) (bs : List (List (Int × List Int))) : D := .tup [tupI zs, .tup (bs.map barD)]
def okProb (zs : List Int) (bs : List (List (Int × List Int))) : Prop := zs.length ≤ 8 ∧ (∀ z ∈ zs, okSize z) ∧ prodL zs ≤ 300 ∧ bs.length ≤ 40 ∧ ∀ b ∈ bs, okBar zs b ∧ b.length ≤ 8
theorem imAll_bars : ∀ {bs : List (List (Int × List Int))}, imAll (bs.map barD) = true
  | [] => rfl
  | q :: b => by
    show (true && imAll (b.map barD)) = true
    rw [imAll_bars]; rfl
def ProbOk (f : FnS) : Prop := ∀ (L : List Int) (m t ma : Int) (k x : OutK), L.length ≤ 63 → 0 ≤ ma → ma ≤ 8 → (∀ zs bs L' m' t', okProb zs bs → L'.length ≤ 63 → k (problemD zs bs) [deck L' m' t', .bot, .bot]) → f [deck L m t, .int 300, .int ma] k x
theorem prob_ok {f0 f1 f2 f3 f4 f5 f6 : FnS} (hd : DrawOk f1) (hp : PickOk f2) (h3 : SizesOk f3) (h6 : BarOk f6) : ProbOk (wpF [f0, f1, f2, f3, f4, f5, f6] gloD 3 4 B7) := by
  intro L m t ma k x hL hma0 hma8 hk
  refine ⟨⟨rfl, rfl⟩, ?_⟩
  have eb : big = 16777216 := rfl
  conv => whnf
  (try dsimp only [putOuts, wipeD, List.set_cons_zero, List.set_cons_succ, List.cons_append, List.nil_append, List.replicate_succ, List.replicate_zero])
  refine h3 L m t ma _ _ hL hma0 hma8 fun zs L1 m1 t1 hzl hzs hpr hL1 => ?_
  conv => whnf
  (try dsimp only [putOuts, wipeD, List.set_cons_zero, List.set_cons_succ, List.cons_append, List.nil_append, List.replicate_succ, List.replicate_zero])
  refine ⟨Nat.le_of_ble_eq_true rfl, ?_⟩
  conv => whnf
  (try dsimp only [putOuts, wipeD, List.set_cons_zero, List.set_cons_succ, List.cons_append, List.nil_append, List.replicate_succ, List.replicate_zero])
  refine ⟨⟨rfl, Nat.le_of_ble_eq_true rfl⟩, ?_⟩
  conv => whnf
  (try dsimp only [putOuts, wipeD, List.set_cons_zero, List.set_cons_succ, List.cons_append, List.nil_append, List.replicate_succ, List.replicate_zero])
  refine hp L1 m1 t1 _ _ _ hL1 (by simp) (Nat.le_of_ble_eq_true rfl) rfl fun d L2 m2 t2 hd2 hL2 => ?_
  obtain ⟨h, rfl, hh0, hh1⟩ : ∃ h, d = .int h ∧ 0 ≤ h ∧ h ≤ 16 := by
    simp only [List.mem_cons, List.not_mem_nil, or_false] at hd2
    rcases hd2 with rfl | rfl | rfl | rfl | rfl | rfl | rfl <;> exact ⟨_, rfl, by decide, by decide⟩
  conv => whnf
  (try dsimp only [putOuts, wipeD, List.set_cons_zero, List.set_cons_succ, List.cons_append, List.nil_append, List.replicate_succ, List.replicate_zero])
  refine ⟨⟨by decide, by decide, by omega, by omega⟩, rfl, ?_⟩
  refine forL_of (fun i σ => ∃ (bs : List (List (Int × List Int))) (L' : List Int) (m' t' : Int) (d e : D), σ = [deck L' m' t', .int 300, .int ma, d, tupI zs, .lst (bs.map barD), e] ∧ bs.length ≤ i ∧ i ≤ h.toNat ∧ (∀ b ∈ bs, okBar zs b ∧ b.length ≤ 8) ∧ L'.length ≤ 63)
    ⟨[], L2, m2, t2, .bot, .bot, rfl, Nat.le_refl _, Nat.zero_le _, (fun b h => nomatch h), hL2⟩ (fun _ _ _ => trivial) (fun i d σ k2 hd3 hi hk2 => ?_) fun σ hi => ?_
  · obtain ⟨bs, L', m', t', d0, e0, rfl, hbl, hih, hbs, hL'⟩ := hi
    obtain ⟨hi2, rfl⟩ := intsUp_get hd3
    have hi3 : i < h.toNat := by simpa using hi2
    conv => whnf
    (try dsimp only [putOuts, wipeD, List.set_cons_zero, List.set_cons_succ, List.cons_append, List.nil_append, List.replicate_succ, List.replicate_zero])
    refine h6 L' m' t' 4 zs _ _ hL' hzl hzs (by decide) (by decide) fun b L3 m3 t3 hb hb8 hL3 => ?_
    have add : ∀ (L4 : List Int) (m4 t4 : Int) (E : En), L4.length ≤ 63 → E.nx = k2 → wpS [f0, f1, f2, f3, f4, f5, f6] gloD 3 (.cons (.exp (.mth .append (.var 5) (.cons (.var 6) .nil))) .nil) [deck L4 m4 t4, .int 300, .int ma, .int (0 + i), tupI zs, .lst (bs.map barD), barD b] E := by
      intro L4 m4 t4 E hL4 hE
      conv => whnf
      (try dsimp only [putOuts, wipeD, List.set_cons_zero, List.set_cons_succ, List.cons_append, List.nil_append, List.replicate_succ, List.replicate_zero])
      refine ⟨by rw [List.length_map]; omega, ?_⟩
      show E.nx _
      rw [hE]
      refine hk2 _ ⟨bs ++ [b], L4, m4, t4, .int (0 + i), barD b, ?_, by simp; omega, by omega, fun c hc => ?_, hL4⟩
      · rw [List.map_append]; rfl
      · rcases List.mem_append.mp hc with h | h
        · exact hbs c h
        · have : c = b := by simpa using h
          subst this; exact ⟨hb, hb8⟩
    conv => whnf
    (try dsimp only [putOuts, wipeD, List.set_cons_zero, List.set_cons_succ, List.cons_append, List.nil_append, List.replicate_succ, List.replicate_zero])
    refine ⟨⟨rfl, Nat.le_of_ble_eq_true rfl⟩, ?_⟩
    conv => whnf
    (try dsimp only [putOuts, wipeD, List.set_cons_zero, List.set_cons_succ, List.cons_append, List.nil_append, List.replicate_succ, List.replicate_zero])
    refine ⟨_, _, bar_py.1, rfl, bar_py.2, rfl, ?_⟩
    conv => whnf
    (try dsimp only [putOuts, wipeD, List.set_cons_zero, List.set_cons_succ, List.cons_append, List.nil_append, List.replicate_succ, List.replicate_zero])
    refine ⟨fun _ => ?_, fun _ => ?_⟩
    · conv => whnf
      (try dsimp only [putOuts, wipeD, List.set_cons_zero, List.set_cons_succ, List.cons_append, List.nil_append, List.replicate_succ, List.replicate_zero])
      refine ⟨fun _ => ?_, fun h => nomatch h⟩
      exact add L3 m3 t3 _ hL3 rfl
    · conv => whnf
      (try dsimp only [putOuts, wipeD, List.set_cons_zero, List.set_cons_succ, List.cons_append, List.nil_append, List.replicate_succ, List.replicate_zero])
      refine hd L3 m3 t3 _ _ _ hL3 (by decide) (by decide) fun r L4 m4 t4 _ _ hL4 => ?_
      conv => whnf
      (try dsimp only [putOuts, wipeD, List.set_cons_zero, List.set_cons_succ, List.cons_append, List.nil_append, List.replicate_succ, List.replicate_zero])
      refine ⟨fun _ => ?_, fun _ => ?_⟩
      · exact add L4 m4 t4 _ hL4 rfl
      · exact hk2 _ ⟨bs, L4, m4, t4, .int (0 + i), barD b, rfl, by omega, by omega, hbs, hL4⟩
  · obtain ⟨bs, L', m', t', d0, e0, rfl, hbl, hih, hbs, hL'⟩ := hi
    conv => whnf
    (try dsimp only [putOuts, wipeD, List.set_cons_zero, List.set_cons_succ, List.cons_append, List.nil_append, List.replicate_succ, List.replicate_zero])
    refine ⟨imAll_bars, ?_⟩
    conv => whnf
    (try dsimp only [putOuts, wipeD, List.set_cons_zero, List.set_cons_succ, List.cons_append, List.nil_append, List.replicate_succ, List.replicate_zero])
    refine ⟨⟨rfl, Nat.le_of_ble_eq_true rfl⟩, ?_⟩
    exact hk zs bs L' m' t' ⟨hzl, hzs, hpr, by omega, hbs⟩ hL'
end K36

set_option Elab.async false
set_option linter.all false
set_option maxRecDepth 100000
set_option maxHeartbeats 1000000
namespace K36
open PySem PySem.Spec PyProof.Rows L2 MP
/-- a list's item is drawn -/
def PickLOk (f : FnS) : Prop := ∀ (L : List Int) (m t : Int) (ds : List D) (k x : OutK), L.length ≤ 63 → ds ≠ [] → ds.length < 1000 → imAll ds = true → (∀ d L' m' t', d ∈ ds → L'.length ≤ 63 → k d [deck L' m' t', .lst ds]) → f [deck L m t, .lst ds] k x
theorem pickL_ok {f0 f1 : FnS} (hd : DrawOk f1) : PickLOk (wpF [f0, f1] gloD 2 0 B2) := by
  intro L m t ds k x hL hne hlen him hk
  refine ⟨⟨rfl, rfl⟩, ?_⟩
  conv => whnf
  have hpos : 0 < ds.length := List.length_pos_iff.mpr hne
  refine hd L m t ds.length _ _ hL (by omega) (by omega) fun r L' m' t' h1 h2 h3 => ?_
  obtain ⟨j, hj, hjl⟩ := ixT h1 h2
  have hj : ixOf (.lst ds) (.int r) = some j := hj
  have hm : ds[j]? = some ds[j] := List.getElem?_eq_getElem hjl
  have hi : ds[j].im = true := imAll_get him hm
  conv => whnf
  rw [hj]
  refine itemS_im (e := ds[j]) hm hi ?_
  exact hk _ L' m' t' (List.getElem_mem hjl) h3
/-- a short word -/
def okW (n : Nat) (x : Str) : Prop := x.length ≤ n ∧ x.cps.toList.all (fun c => decide (c < 1114112)) = true
/-- what is bent: numbers, words, tuples of such -/
def tv : Nat → D → Prop
  | _, .int i => i.natAbs < 10 ^ 41
  | _, .str x => okW 20 x
  | n + 1, .tup xs => xs.length ≤ 40 ∧ ∀ x ∈ xs, tv n x
  | _, _ => False
/-- what comes out -/
def pv : Nat → D → Prop
  | _, .non => True
  | _, .bl _ => True
  | _, .int i => i.natAbs < 10 ^ 42
  | _, .str x => okW 60 x
  | _, .fd ks xs => ks = [] ∧ xs = []
  | n + 1, .tup xs => xs.length ≤ 41 ∧ ∀ x ∈ xs, pv n x
  | n + 1, .fl xs => xs.length ≤ 41 ∧ ∀ x ∈ xs, pv n x
  | _, _ => False
mutual
def wt : D → Nat
  | .tup xs => wtAll xs + 1
  | .fl xs => wtAll xs + 1
  | _ => 1
def wtAll : List D → Nat
  | [] => 0
  | x :: xs => wt x + wtAll xs
end
theorem wtAll_app : ∀ {a b : List D}, wtAll (a ++ b) = wtAll a + wtAll b
  | [], b => by simp [wtAll]
  | x :: a, b => by
    show wt x + wtAll (a ++ b) = wt x + wtAll a + wtAll b
    rw [wtAll_app]; omega
theorem wtAll_sub {a b : List D} (h : a.Sublist b) : wtAll a ≤ wtAll b := by
  induction h with
  | slnil => exact Nat.le_refl _
  | cons x _ ih => show _ ≤ wt x + wtAll _; omega
  | cons_cons x _ ih => show wt x + wtAll _ ≤ wt x + wtAll _; omega
theorem wtAll_rev : ∀ {a : List D}, wtAll a.reverse = wtAll a
  | [] => rfl
  | x :: a => by
    rw [List.reverse_cons, wtAll_app, wtAll_rev]
    show wtAll a + (wt x + 0) = wt x + wtAll a
    omega
theorem wt_pos : ∀ d : D, 1 ≤ wt d := fun d => by cases d <;> simp [wt]
theorem cutD_sub {xs : List D} {lo hi : Option Int} : (MP.cutD xs lo hi).Sublist xs := (List.take_sublist _ _).trans (List.drop_sublist _ _)
theorem pv_up : ∀ {n : Nat} {d : D}, pv n d → pv (n + 1) d
  | n, .non, _ => trivial
  | n, .bl _, _ => trivial
  | n, .int i, h => by cases n <;> exact h
  | n, .str x, h => by cases n <;> exact h
  | n, .fd _ _, h => by cases n <;> exact h
  | n + 1, .tup xs, h => ⟨h.1, fun x hx => pv_up (h.2 x hx)⟩
  | n + 1, .fl xs, h => ⟨h.1, fun x hx => pv_up (h.2 x hx)⟩
  | 0, .tup _, h => h.elim
  | 0, .fl _, h => h.elim
  | n, .bot, h => by cases n <;> exact h.elim
  | n, .lst _, h => by cases n <;> exact h.elim
  | n, .dct _ _, h => by cases n <;> exact h.elim
  | n, .pr _, h => by cases n <;> exact h.elim
  | n, .ins _ _ _, h => by cases n <;> exact h.elim
theorem pv_le {n : Nat} {d : D} (h : pv n d) : ∀ k, pv (n + k) d
  | 0 => h
  | k + 1 => pv_up (pv_le h k)
theorem pow41 : (10 : Nat) ^ 41 ≤ 10 ^ 42 := Nat.le_of_ble_eq_true rfl
theorem tv_pv : ∀ {n : Nat} {d : D}, tv n d → pv n d
  | n, .int i, h => by
    have h : i.natAbs < 10 ^ 41 := by cases n <;> exact h
    have h2 : i.natAbs < 10 ^ 42 := Nat.lt_of_lt_of_le h pow41
    cases n <;> exact h2
  | n, .str x, h => by
    have h : okW 20 x := by cases n <;> exact h
    have h2 : okW 60 x := ⟨Nat.le_trans h.1 (by decide), h.2⟩
    cases n <;> exact h2
  | n + 1, .tup xs, h => ⟨Nat.le_trans h.1 (by decide), fun x hx => tv_pv (h.2 x hx)⟩
  | 0, .tup _, h => h.elim
  | n, .fl _, h => by cases n <;> exact h.elim
  | n, .bot, h => by cases n <;> exact h.elim
  | n, .non, h => by cases n <;> exact h.elim
  | n, .bl _, h => by cases n <;> exact h.elim
  | n, .fd _ _, h => by cases n <;> exact h.elim
  | n, .lst _, h => by cases n <;> exact h.elim
  | n, .dct _ _, h => by cases n <;> exact h.elim
  | n, .pr _, h => by cases n <;> exact h.elim
  | n, .ins _ _ _, h => by cases n <;> exact h.elim
theorem pv_im : ∀ {n : Nat} {d : D}, pv n d → d.im = true
  | n, .non, _ => rfl
  | n, .bl _, _ => rfl
  | n, .int i, h => rfl
  | n, .str x, h => rfl
  | n, .fd _ _, h => rfl
  | n, .tup xs, h => rfl
  | n, .fl xs, h => rfl
  | n, .bot, h => by cases n <;> exact h.elim
  | n, .lst _, h => by cases n <;> exact h.elim
  | n, .dct _ _, h => by cases n <;> exact h.elim
  | n, .pr _, h => rfl
  | n, .ins _ _ _, h => by cases n <;> exact h.elim
theorem tv_im {n : Nat} {d : D} (h : tv n d) : d.im = true := pv_im (tv_pv h)
theorem imAll_of : ∀ {ds : List D}, (∀ d ∈ ds, d.im = true) → imAll ds = true
  | [], _ => rfl
  | d :: ds, h => by
    show (d.im && imAll ds) = true
    rw [h d List.mem_cons_self, imAll_of fun x hx => h x (List.mem_cons_of_mem _ hx)]; rfl
theorem tv_all {n : Nat} {xs : List D} (h : ∀ x ∈ xs, tv n x) : imAll xs = true := imAll_of fun x hx => tv_im (h x hx)
/-- a value made of a bent one -/
structure Gv (n w : Nat) (d : D) : Prop where
  p : pv n d
  w : wt d ≤ w
theorem Gv.up {n w n' w' : Nat} {d : D} (h : Gv n w d) (k : Nat) (hn : n' = n + k) (hw : w ≤ w') : Gv n' w' d := by
  subst hn; exact ⟨pv_le h.p k, Nat.le_trans h.w hw⟩
theorem gv_int {n w : Nat} {i : Int} (h : i.natAbs < 10 ^ 42) (hw : 1 ≤ w) : Gv n w (.int i) := ⟨by cases n <;> exact h, hw⟩
theorem gv_str {n w : Nat} {x : Str} (h : okW 60 x) (hw : 1 ≤ w) : Gv n w (.str x) := ⟨by cases n <;> exact h, hw⟩
theorem gv_bl {n w : Nat} {b : Bool} (hw : 1 ≤ w) : Gv n w (.bl b) := ⟨by cases n <;> trivial, hw⟩
theorem gv_non {n w : Nat} (hw : 1 ≤ w) : Gv n w .non := ⟨by cases n <;> trivial, hw⟩
theorem gv_tup {n w : Nat} {xs : List D} (hl : xs.length ≤ 41) (h : ∀ x ∈ xs, pv n x) (hw : wtAll xs + 1 ≤ w) : Gv (n + 1) w (.tup xs) := ⟨⟨hl, h⟩, hw⟩
theorem gv_fl {n w : Nat} {xs : List D} (hl : xs.length ≤ 41) (h : ∀ x ∈ xs, pv n x) (hw : wtAll xs + 1 ≤ w) : Gv (n + 1) w (.fl xs) := ⟨⟨hl, h⟩, hw⟩
theorem okW_of {n : Nat} {s : String} (h : (Str.ofString s).length ≤ n) : okW n (Str.ofString s) := by
  refine ⟨h, ?_⟩
  rw [List.all_eq_true]
  intro c hc
  refine decide_eq_true ?_
  have e : (Str.ofString s).cps.toList = s.toList.map Char.toNat := by rw [Str.ofString_eq_toList]
  rw [e] at hc
  obtain ⟨ch, _, rfl⟩ := List.mem_map.mp hc
  have := ch.valid
  rcases this with h | ⟨_, h⟩ <;> (show ch.val.toNat < 1114112; omega)
theorem okW_app {a b n : Nat} {x y : Str} (hx : okW a x) (hy : okW b y) (h : a + b ≤ n) : okW n (x ++ y) := by
  have e : (x ++ y).cps.toList = x.cps.toList ++ y.cps.toList := by
    show (x.cps ++ y.cps).toList = _
    simp
  refine ⟨?_, ?_⟩
  · have : (x ++ y).length = x.length + y.length := by
      show (x.cps ++ y.cps).size = x.cps.size + y.cps.size
      simp
    have := hx.1
    have := hy.1
    omega
  · rw [e, List.all_append, hx.2, hy.2]; rfl
theorem okW_cut {n : Nat} {x : Str} {lo hi : Option Int} (h : okW n x) : okW n (cutS x lo hi) := by
  have key : ∀ (l : List Nat), l.Sublist x.cps.toList → okW n ⟨l.toArray⟩ := fun l hl => by
    refine ⟨?_, ?_⟩
    · show l.toArray.size ≤ n
      rw [List.size_toArray]
      have := hl.length_le
      have h1 := h.1
      have e : x.length = x.cps.toList.length := by rw [Array.length_toList]; rfl
      omega
    · show (l.toArray.toList).all _ = true
      rw [List.all_eq_true]
      intro c hc
      exact List.all_eq_true.mp h.2 c (hl.subset (by simpa using hc))
  unfold cutS
  first
    | exact key _ ((List.take_sublist _ _).trans (List.drop_sublist _ _))
    | (dsimp only; exact key _ ((List.take_sublist _ _).trans (List.drop_sublist _ _)))
end K36

set_option Elab.async false
set_option linter.all false
set_option maxRecDepth 100000
set_option maxHeartbeats 1000000
namespace K36
open PySem PySem.Spec PyProof.Rows L2 MP
def oddBase : List D := [.non, .bl true, .bl false, .int 0, .int 1, .int (-1), .int 2, .int 7, .str "", .str "given", .str "join", .str "choice", .str "lines", .str "none", .tup [], .tup [.tup []], .fl [], .fd [] [], .tup [.int 0], .tup [.int 0, .tup [.int 0]],
  .tup [.tup [.int 0, .tup [.int 0]]], .int (10 ^ 30)]
theorem gv_i0 {n w : Nat} (h : 1 ≤ w) : Gv n w (.int 0) := gv_int (by decide) h
theorem i_small {j : Int} {n : Nat} (h : j.natAbs < 10 ^ 31) : pv n (.int j) := by
  have : j.natAbs < 10 ^ 42 := Nat.lt_of_lt_of_le h (Nat.le_of_ble_eq_true rfl)
  cases n <;> exact this
theorem odd_base {n w : Nat} (hw : 8 ≤ w) : ∀ d ∈ oddBase, Gv (n + 4) w d := by
  have i0 : ∀ n, pv n (.int 0) := fun n => i_small (by decide)
  have t0 : ∀ n, pv (n + 1) (.tup [.int 0]) := fun n => ⟨by decide, fun x hx => by
    have : x = .int 0 := by simpa using hx
    subst this; exact i0 n⟩
  have t1 : ∀ n, pv (n + 2) (.tup [.int 0, .tup [.int 0]]) := fun n => ⟨by decide, fun x hx => by
    simp only [List.mem_cons, List.not_mem_nil, or_false] at hx
    rcases hx with rfl | rfl
    · exact i0 _
    · exact t0 n⟩
  intro d hd
  unfold oddBase at hd
  simp only [List.mem_cons, List.not_mem_nil, or_false] at hd
  rcases hd with rfl | rfl | rfl | rfl | rfl | rfl | rfl | rfl | rfl | rfl | rfl | rfl | rfl | rfl | rfl | rfl | rfl | rfl | rfl | rfl | rfl | rfl
  · exact gv_non (by omega)
  · exact gv_bl (by omega)
  · exact gv_bl (by omega)
  · exact ⟨i_small (by decide), by show 1 ≤ w; omega⟩
  · exact ⟨i_small (by decide), by show 1 ≤ w; omega⟩
  · exact ⟨i_small (by decide), by show 1 ≤ w; omega⟩
  · exact ⟨i_small (by decide), by show 1 ≤ w; omega⟩
  · exact ⟨i_small (by decide), by show 1 ≤ w; omega⟩
  · exact gv_str ⟨by decide +kernel, by decide +kernel⟩ (by omega)
  · exact gv_str ⟨by decide +kernel, by decide +kernel⟩ (by omega)
  · exact gv_str ⟨by decide +kernel, by decide +kernel⟩ (by omega)
  · exact gv_str ⟨by decide +kernel, by decide +kernel⟩ (by omega)
  · exact gv_str ⟨by decide +kernel, by decide +kernel⟩ (by omega)
  · exact gv_str ⟨by decide +kernel, by decide +kernel⟩ (by omega)
  · exact gv_tup (by decide) (fun x hx => nomatch hx) (by show 0 + 1 ≤ w; omega)
  · refine gv_tup (by decide) (fun x hx => ?_) (by show (0 + 1 + 0) + 1 ≤ w; omega)
    have : x = .tup [] := by simpa using hx
    subst this; exact ⟨by decide, fun x hx => nomatch hx⟩
  · exact gv_fl (by decide) (fun x hx => nomatch hx) (by show 0 + 1 ≤ w; omega)
  · exact ⟨⟨rfl, rfl⟩, by show 1 ≤ w; omega⟩
  · exact ⟨t0 _, by show (1 + 0) + 1 ≤ w; omega⟩
  · exact ⟨t1 _, by show (1 + (((1 + 0) + 1) + 0)) + 1 ≤ w; omega⟩
  · refine ⟨⟨by decide, fun x hx => ?_⟩, by show (((1 + (((1 + 0) + 1) + 0)) + 1) + 0) + 1 ≤ w; omega⟩
    have : x = .tup [.int 0, .tup [.int 0]] := by simpa using hx
    subst this; exact t1 _
  · exact ⟨i_small (Nat.le_of_ble_eq_true rfl), by show 1 ≤ w; omega⟩
theorem odd_all {n w : Nat} {ys : List D} (hw : 8 ≤ w) (h : ∀ d ∈ ys, Gv (n + 4) w d) : ∀ d ∈ oddBase ++ (List.replicate (3 : Int).toNat ys).flatten, Gv (n + 4) w d := by
  intro d hd
  rcases List.mem_append.mp hd with hd | hd
  · exact odd_base hw d hd
  · obtain ⟨l, hl, h2⟩ := List.mem_flatten.mp hd
    obtain ⟨_, e⟩ := List.mem_replicate.mp hl
    exact h d (e ▸ h2)
theorem odd_len {ys : List D} (h : ys.length ≤ 9) : (oddBase ++ (List.replicate (3 : Int).toNat ys).flatten).length < 1000 := by
  rw [List.length_append, rep_len]
  show 22 + 3 * ys.length < 1000
  omega
theorem gv_ims {n w : Nat} {ds : List D} (h : ∀ d ∈ ds, Gv n w d) : imAll ds = true := imAll_of fun d hd => pv_im (h d hd).p
theorem abs1 {i : Int} (h : i.natAbs < 10 ^ 41) : (i + 1).natAbs < 10 ^ 42 ∧ (i - 1).natAbs < 10 ^ 42 ∧ (-i).natAbs < 10 ^ 42 ∧ i.natAbs < 10 ^ 42 := by
  have e : (10 : Nat) ^ 42 = 10 ^ 41 * 10 := by rw [← Nat.pow_succ]
  have p : 1 ≤ (10 : Nat) ^ 41 := Nat.le_of_ble_eq_true rfl
  rw [e]
  generalize (10 : Nat) ^ 41 = q at h p ⊢
  omega
theorem log_small {i : Int} (h : i.natAbs < 10 ^ 41) : i.natAbs.log2 < 1920 := by
  by_cases h0 : i.natAbs = 0
  · rw [h0]; decide
  · exact (Nat.log2_lt h0).mpr (Nat.lt_of_lt_of_le h (Nat.le_of_ble_eq_true rfl))
theorem okW_int {i : Int} (h : i.natAbs < 10 ^ 41) : okW 60 (Str.ofString (toString i)) := by
  refine okW_of ?_
  have e := int_text_length_le10 (k := 41) (by decide) h
  have e2 : (Str.ofString (toString i)).length = (toString i).length := PySem.ofString_length _
  omega
theorem cut1_len {xs : List D} : (MP.cutD xs none (some 1)).length ≤ 1 := by
  rw [cut_headD (by decide : (0 : Int) ≤ 1), List.length_take]
  exact Nat.min_le_left _ _
/-- a list of parts of xs -/
theorem gv_part {n w : Nat} {xs ys : List D} (hx : ∀ x ∈ xs, pv n x) (hl : ys.length ≤ 41) (hs : ∀ y ∈ ys, y ∈ xs ∨ y = .int 0) (hw : wtAll ys + 1 ≤ w) : Gv (n + 1) w (.tup ys) :=
  gv_tup hl (fun y hy => by
    rcases hs y hy with h | rfl
    · exact hx y h
    · exact i_small (by decide)) hw
theorem tup_items {n w : Nat} {xs : List D} (hx : ∀ x ∈ xs, pv n x) (hl : xs.length ≤ 40) (hw : 2 * (wtAll xs + 1) + 8 ≤ w) :
    ∀ d ∈ [D.fl xs, .tup (xs ++ [.int 0]), .tup (MP.cutD xs (some 1) none), .tup (MP.cutD xs none (some (-1))), .tup xs.reverse, .tup (xs ++ MP.cutD xs none (some 1)), .tup [.tup xs], .tup (MP.cutD xs none (some 1) ++ xs), .tup (MP.cutD xs none (some 1) ++ MP.cutD xs (some 2) none)], Gv (n + 1 + 4) w d := by
  have c1 : ∀ {lo hi}, (MP.cutD xs lo hi).length ≤ xs.length := cutD_sub.length_le
  have w1 : ∀ {lo hi}, wtAll (MP.cutD xs lo hi) ≤ wtAll xs := wtAll_sub cutD_sub
  have m1 : ∀ {lo hi} {y : D}, y ∈ MP.cutD xs lo hi → y ∈ xs := fun h => cutD_sub.subset h
  have k1 := cut1_len (xs := xs)
  intro d hd
  simp only [List.mem_cons, List.not_mem_nil, or_false] at hd
  rcases hd with rfl | rfl | rfl | rfl | rfl | rfl | rfl | rfl | rfl
  · exact (gv_fl (by omega) hx (by omega) : Gv (n + 1) w _).up 4 rfl (Nat.le_refl _)
  · refine (gv_part hx (by rw [List.length_append]; show xs.length + 1 ≤ 41; omega) (fun y hy => ?_) ?_ : Gv (n + 1) w _).up 4 rfl (Nat.le_refl _)
    · rcases List.mem_append.mp hy with h | h
      · exact .inl h
      · exact .inr (by simpa using h)
    · rw [wtAll_app]; show wtAll xs + (1 + 0) + 1 ≤ w; omega
  · exact (gv_part hx (by have := c1 (lo := some 1) (hi := none); omega) (fun y hy => .inl (m1 hy)) (by have := w1 (lo := some 1) (hi := none); omega) : Gv (n + 1) w _).up 4 rfl (Nat.le_refl _)
  · exact (gv_part hx (by have := c1 (lo := none) (hi := some (-1)); omega) (fun y hy => .inl (m1 hy)) (by have := w1 (lo := none) (hi := some (-1)); omega) : Gv (n + 1) w _).up 4 rfl (Nat.le_refl _)
  · exact (gv_part hx (by rw [List.length_reverse]; omega) (fun y hy => .inl (List.mem_reverse.mp hy)) (by rw [wtAll_rev]; omega) : Gv (n + 1) w _).up 4 rfl (Nat.le_refl _)
  · refine (gv_part hx (by rw [List.length_append]; omega) (fun y hy => ?_) ?_ : Gv (n + 1) w _).up 4 rfl (Nat.le_refl _)
    · rcases List.mem_append.mp hy with h | h
      · exact .inl h
      · exact .inl (m1 h)
    · rw [wtAll_app]; have := w1 (lo := none) (hi := some 1); omega
  · refine (gv_tup (by show 1 ≤ 41; decide) (fun y hy => ?_) ?_ : Gv (n + 1 + 1) w _).up 3 (by omega) (Nat.le_refl _)
    · have : y = .tup xs := by simpa using hy
      subst this; exact ⟨by omega, hx⟩
    · show (wtAll xs + 1) + 0 + 1 ≤ w; omega
  · refine (gv_part hx (by rw [List.length_append]; omega) (fun y hy => ?_) ?_ : Gv (n + 1) w _).up 4 rfl (Nat.le_refl _)
    · rcases List.mem_append.mp hy with h | h
      · exact .inl (m1 h)
      · exact .inl h
    · rw [wtAll_app]; have := w1 (lo := none) (hi := some 1); omega
  · refine (gv_part hx (by rw [List.length_append]; have := c1 (lo := some 2) (hi := none); omega) (fun y hy => ?_) ?_ : Gv (n + 1) w _).up 4 rfl (Nat.le_refl _)
    · rcases List.mem_append.mp hy with h | h <;> exact .inl (m1 h)
    · rw [wtAll_app]; have := w1 (lo := none) (hi := some 1); have := w1 (lo := some 2) (hi := none); omega
theorem int_items {n : Nat} {i : Int} (h : i.natAbs < 10 ^ 41) : ∀ d ∈ [D.int (i + 1), .int (i - 1), .int (-i), .bl (decide (i = 1)), .fl [.int i], .tup [.int i], .str (Str.ofString (toString i))], Gv (n + 4) 10 d := by
  obtain ⟨h1, h2, h3, h4⟩ := abs1 h
  have one : ∀ x ∈ [D.int i], pv (n + 3) x := fun x hx => by
    have : x = .int i := by simpa using hx
    subst this; exact h4
  intro d hd
  simp only [List.mem_cons, List.not_mem_nil, or_false] at hd
  rcases hd with rfl | rfl | rfl | rfl | rfl | rfl | rfl
  · exact gv_int h1 (by decide)
  · exact gv_int h2 (by decide)
  · exact gv_int h3 (by decide)
  · exact gv_bl (by decide)
  · exact gv_fl (by show 1 ≤ 41; decide) one (by show 1 + 0 + 1 ≤ 10; decide)
  · exact gv_tup (by show 1 ≤ 41; decide) one (by show 1 + 0 + 1 ≤ 10; decide)
  · exact gv_str (okW_int h) (by decide)
theorem str_items {n : Nat} {z : Str} (h : okW 20 z) : ∀ d ∈ [D.str (z ++ "s"), .str (z ++ " "), .str (cutS z (some 1) none), .fl [.str z], .tup [.str z], .str (z ++ z)], Gv (n + 4) 10 d := by
  have h6 : okW 60 z := ⟨Nat.le_trans h.1 (by decide), h.2⟩
  have one : ∀ x ∈ [D.str z], pv (n + 3) x := fun x hx => by
    have : x = .str z := by simpa using hx
    subst this; exact h6
  intro d hd
  simp only [List.mem_cons, List.not_mem_nil, or_false] at hd
  rcases hd with rfl | rfl | rfl | rfl | rfl | rfl
  · exact gv_str (okW_app (a := 20) (b := 1) h ⟨by decide +kernel, by decide +kernel⟩ (by decide)) (by decide)
  · exact gv_str (okW_app (a := 20) (b := 1) h ⟨by decide +kernel, by decide +kernel⟩ (by decide)) (by decide)
  · exact gv_str (okW_cut h6) (by decide)
  · exact gv_fl (by show 1 ≤ 41; decide) one (by show 1 + 0 + 1 ≤ 10; decide)
  · exact gv_tup (by show 1 ≤ 41; decide) one (by show 1 + 0 + 1 ≤ 10; decide)
  · exact gv_str (okW_app (a := 20) (b := 20) h h (by decide)) (by decide)
def OddOk (f : FnS) : Prop := ∀ (L : List Int) (m t : Int) (n : Nat) (it : D) (k x : OutK), L.length ≤ 63 → tv n it → (∀ d L' m' t', Gv (n + 4) (2 * wt it + 8) d → L'.length ≤ 63 → k d [deck L' m' t', .bot]) → f [deck L m t, it] k x
theorem cpow30 : CPow 10 30 := by unfold CPow; decide
theorem odd_ok {f0 f1 f2 f3 f4 f5 f6 f7 : FnS} (hp : PickLOk f2) : OddOk (wpF [f0, f1, f2, f3, f4, f5, f6, f7] gloD 2 1 B8) := by
  intro L m t n it k x hL htv hk
  have eb : big = 16777216 := rfl
  have fin : ∀ (ys : List D) (A : List D) (K X : OutK), A = oddBase ++ (List.replicate (3 : Int).toNat ys).flatten → ys.length ≤ 9 → (∀ d ∈ ys, Gv (n + 4) (2 * wt it + 8) d) → (∀ d L' m' t', Gv (n + 4) (2 * wt it + 8) d → L'.length ≤ 63 → K d [deck L' m' t', .lst A]) → f2 [deck L m t, .lst A] K X := by
    intro ys A K X eA hl hg hK
    subst eA
    have all := odd_all (w := 2 * wt it + 8) (by omega) hg
    exact hp L m t _ _ _ hL (by unfold oddBase; simp) (odd_len hl) (gv_ims all) fun d L' m' t' hd hL' => hK d L' m' t' (all d hd) hL'
  cases it with
  | int i =>
    have hi : i.natAbs < 10 ^ 41 := by cases n <;> exact htv
    have ims : imAll (List.replicate (3 : Int).toNat [D.int (i + 1), .int (i - 1), .int (-i), .bl (decide (i = 1)), .fl [.int i], .tup [.int i], .str (Str.ofString (toString i))]).flatten = true := rfl
    refine ⟨⟨rfl, rfl⟩, ?_⟩
    conv => whnf
    (try dsimp only [putOuts, wipeD, List.set_cons_zero, List.set_cons_succ, List.cons_append, List.nil_append, List.replicate_succ, List.replicate_zero])
    repeat ((first
      | refine ⟨⟨rfl, Nat.le_of_ble_eq_true rfl⟩, ?_⟩
      | refine ⟨Nat.le_of_ble_eq_true rfl, ?_⟩
      | refine ⟨rfl, ?_⟩
      | refine ⟨⟨List.nodup_nil, rfl, Nat.le_of_ble_eq_true rfl⟩, ?_⟩
      | refine ⟨cpow30, ?_⟩); (conv => whnf); (try dsimp only [putOuts, wipeD, List.set_cons_zero, List.set_cons_succ, List.cons_append, List.nil_append, List.replicate_succ, List.replicate_zero]))
    refine ⟨(fun h => nomatch h), fun _ => ?_⟩
    conv => whnf
    (try dsimp only [putOuts, wipeD, List.set_cons_zero, List.set_cons_succ, List.cons_append, List.nil_append, List.replicate_succ, List.replicate_zero])
    refine ⟨fun _ => ?_, fun h => nomatch h⟩
    conv => whnf
    (try dsimp only [putOuts, wipeD, List.set_cons_zero, List.set_cons_succ, List.cons_append, List.nil_append, List.replicate_succ, List.replicate_zero])
    repeat ((first
      | refine ⟨⟨rfl, Nat.le_of_ble_eq_true rfl⟩, ?_⟩
      | refine ⟨Nat.le_of_ble_eq_true rfl, ?_⟩
      | refine ⟨rfl, ?_⟩
      | refine ⟨⟨List.nodup_nil, rfl, Nat.le_of_ble_eq_true rfl⟩, ?_⟩
      | refine ⟨cpow30, ?_⟩); (conv => whnf); (try dsimp only [putOuts, wipeD, List.set_cons_zero, List.set_cons_succ, List.cons_append, List.nil_append, List.replicate_succ, List.replicate_zero]))
    refine ⟨log_small hi, ?_⟩
    conv => whnf
    (try dsimp only [putOuts, wipeD, List.set_cons_zero, List.set_cons_succ, List.cons_append, List.nil_append, List.replicate_succ, List.replicate_zero])
    repeat ((first
      | refine ⟨⟨rfl, Nat.le_of_ble_eq_true rfl⟩, ?_⟩
      | refine ⟨Nat.le_of_ble_eq_true rfl, ?_⟩
      | refine ⟨rfl, ?_⟩
      | refine ⟨⟨List.nodup_nil, rfl, Nat.le_of_ble_eq_true rfl⟩, ?_⟩
      | refine ⟨cpow30, ?_⟩); (conv => whnf); (try dsimp only [putOuts, wipeD, List.set_cons_zero, List.set_cons_succ, List.cons_append, List.nil_append, List.replicate_succ, List.replicate_zero]))
    refine ⟨⟨rfl, by decide, by decide, by show 7 ≤ 1000; decide⟩, ?_⟩
    conv => whnf
    (try dsimp only [putOuts, wipeD, List.set_cons_zero, List.set_cons_succ, List.cons_append, List.nil_append, List.replicate_succ, List.replicate_zero])
    repeat ((first
      | refine ⟨⟨rfl, Nat.le_of_ble_eq_true rfl⟩, ?_⟩
      | refine ⟨Nat.le_of_ble_eq_true rfl, ?_⟩
      | refine ⟨rfl, ?_⟩
      | refine ⟨⟨List.nodup_nil, rfl, Nat.le_of_ble_eq_true rfl⟩, ?_⟩
      | refine ⟨cpow30, ?_⟩); (conv => whnf); (try dsimp only [putOuts, wipeD, List.set_cons_zero, List.set_cons_succ, List.cons_append, List.nil_append, List.replicate_succ, List.replicate_zero]))
    refine ⟨⟨rfl, rfl, Nat.le_of_ble_eq_true rfl⟩, ?_⟩
    conv => whnf
    (try dsimp only [putOuts, wipeD, List.set_cons_zero, List.set_cons_succ, List.cons_append, List.nil_append, List.replicate_succ, List.replicate_zero])
    refine fin [D.int (i + 1), .int (i - 1), .int (-i), .bl (decide (i = 1)), .fl [.int i], .tup [.int i], .str (Str.ofString (toString i))] _ _ _ (by rfl) (by show 7 ≤ 9; decide) (fun d hd => int_items hi d hd) fun d L' m' t' hd hL' => ?_
    exact hk d L' m' t' hd hL'
  | str z =>
    have hi : okW 20 z := by cases n <;> exact htv
    have hl := hi.1
    refine ⟨⟨rfl, rfl⟩, ?_⟩
    conv => whnf
    (try dsimp only [putOuts, wipeD, List.set_cons_zero, List.set_cons_succ, List.cons_append, List.nil_append, List.replicate_succ, List.replicate_zero])
    repeat ((first
      | refine ⟨⟨rfl, Nat.le_of_ble_eq_true rfl⟩, ?_⟩
      | refine ⟨Nat.le_of_ble_eq_true rfl, ?_⟩
      | refine ⟨rfl, ?_⟩
      | refine ⟨⟨List.nodup_nil, rfl, Nat.le_of_ble_eq_true rfl⟩, ?_⟩
      | refine ⟨cpow30, ?_⟩); (conv => whnf); (try dsimp only [putOuts, wipeD, List.set_cons_zero, List.set_cons_succ, List.cons_append, List.nil_append, List.replicate_succ, List.replicate_zero]))
    refine ⟨(fun h => nomatch h), fun _ => ?_⟩
    conv => whnf
    (try dsimp only [putOuts, wipeD, List.set_cons_zero, List.set_cons_succ, List.cons_append, List.nil_append, List.replicate_succ, List.replicate_zero])
    refine ⟨(fun h => nomatch h), fun _ => ?_⟩
    conv => whnf
    (try dsimp only [putOuts, wipeD, List.set_cons_zero, List.set_cons_succ, List.cons_append, List.nil_append, List.replicate_succ, List.replicate_zero])
    refine ⟨fun _ => ?_, fun h => nomatch h⟩
    conv => whnf
    (try dsimp only [putOuts, wipeD, List.set_cons_zero, List.set_cons_succ, List.cons_append, List.nil_append, List.replicate_succ, List.replicate_zero])
    refine ⟨(by show z.length + 1 ≤ big; omega), ?_⟩
    conv => whnf
    (try dsimp only [putOuts, wipeD, List.set_cons_zero, List.set_cons_succ, List.cons_append, List.nil_append, List.replicate_succ, List.replicate_zero])
    refine ⟨(by show z.length + 1 ≤ big; omega), ?_⟩
    conv => whnf
    (try dsimp only [putOuts, wipeD, List.set_cons_zero, List.set_cons_succ, List.cons_append, List.nil_append, List.replicate_succ, List.replicate_zero])
    refine ⟨(by show z.length ≤ big; omega), ?_⟩
    conv => whnf
    (try dsimp only [putOuts, wipeD, List.set_cons_zero, List.set_cons_succ, List.cons_append, List.nil_append, List.replicate_succ, List.replicate_zero])
    repeat ((first
      | refine ⟨⟨rfl, Nat.le_of_ble_eq_true rfl⟩, ?_⟩
      | refine ⟨Nat.le_of_ble_eq_true rfl, ?_⟩
      | refine ⟨rfl, ?_⟩
      | refine ⟨⟨List.nodup_nil, rfl, Nat.le_of_ble_eq_true rfl⟩, ?_⟩
      | refine ⟨cpow30, ?_⟩); (conv => whnf); (try dsimp only [putOuts, wipeD, List.set_cons_zero, List.set_cons_succ, List.cons_append, List.nil_append, List.replicate_succ, List.replicate_zero]))
    refine ⟨(by show z.length + z.length ≤ big; omega), ?_⟩
    conv => whnf
    (try dsimp only [putOuts, wipeD, List.set_cons_zero, List.set_cons_succ, List.cons_append, List.nil_append, List.replicate_succ, List.replicate_zero])
    repeat ((first
      | refine ⟨⟨rfl, Nat.le_of_ble_eq_true rfl⟩, ?_⟩
      | refine ⟨Nat.le_of_ble_eq_true rfl, ?_⟩
      | refine ⟨rfl, ?_⟩
      | refine ⟨⟨List.nodup_nil, rfl, Nat.le_of_ble_eq_true rfl⟩, ?_⟩
      | refine ⟨cpow30, ?_⟩); (conv => whnf); (try dsimp only [putOuts, wipeD, List.set_cons_zero, List.set_cons_succ, List.cons_append, List.nil_append, List.replicate_succ, List.replicate_zero]))
    refine ⟨⟨rfl, by decide, by decide, by show 6 ≤ 1000; decide⟩, ?_⟩
    conv => whnf
    (try dsimp only [putOuts, wipeD, List.set_cons_zero, List.set_cons_succ, List.cons_append, List.nil_append, List.replicate_succ, List.replicate_zero])
    repeat ((first
      | refine ⟨⟨rfl, Nat.le_of_ble_eq_true rfl⟩, ?_⟩
      | refine ⟨Nat.le_of_ble_eq_true rfl, ?_⟩
      | refine ⟨rfl, ?_⟩
      | refine ⟨⟨List.nodup_nil, rfl, Nat.le_of_ble_eq_true rfl⟩, ?_⟩
      | refine ⟨cpow30, ?_⟩); (conv => whnf); (try dsimp only [putOuts, wipeD, List.set_cons_zero, List.set_cons_succ, List.cons_append, List.nil_append, List.replicate_succ, List.replicate_zero]))
    refine ⟨⟨rfl, rfl, Nat.le_of_ble_eq_true rfl⟩, ?_⟩
    conv => whnf
    (try dsimp only [putOuts, wipeD, List.set_cons_zero, List.set_cons_succ, List.cons_append, List.nil_append, List.replicate_succ, List.replicate_zero])
    refine fin [D.str (z ++ "s"), .str (z ++ " "), .str (cutS z (some 1) none), .fl [.str z], .tup [.str z], .str (z ++ z)] _ _ _ (by rfl) (by show 6 ≤ 9; decide) (fun d hd => str_items hi d hd) fun d L' m' t' hd hL' => ?_
    exact hk d L' m' t' hd hL'
  | tup xs =>
    cases n with
    | zero => exact htv.elim
    | succ n =>
    obtain ⟨hl, hx⟩ := htv
    have him := tv_all hx
    have hc1 := cut1_len (xs := xs)
    have hc2 : (MP.cutD xs (some 2) none).length ≤ xs.length := cutD_sub.length_le
    refine ⟨⟨rfl, rfl⟩, ?_⟩
    conv => whnf
    (try dsimp only [putOuts, wipeD, List.set_cons_zero, List.set_cons_succ, List.cons_append, List.nil_append, List.replicate_succ, List.replicate_zero])
    repeat ((first
      | refine ⟨⟨rfl, Nat.le_of_ble_eq_true rfl⟩, ?_⟩
      | refine ⟨Nat.le_of_ble_eq_true rfl, ?_⟩
      | refine ⟨rfl, ?_⟩
      | refine ⟨⟨List.nodup_nil, rfl, Nat.le_of_ble_eq_true rfl⟩, ?_⟩
      | refine ⟨cpow30, ?_⟩); (conv => whnf); (try dsimp only [putOuts, wipeD, List.set_cons_zero, List.set_cons_succ, List.cons_append, List.nil_append, List.replicate_succ, List.replicate_zero]))
    refine ⟨fun _ => ?_, fun h => nomatch h⟩
    conv => whnf
    (try dsimp only [putOuts, wipeD, List.set_cons_zero, List.set_cons_succ, List.cons_append, List.nil_append, List.replicate_succ, List.replicate_zero])
    refine ⟨him, ?_⟩
    conv => whnf
    (try dsimp only [putOuts, wipeD, List.set_cons_zero, List.set_cons_succ, List.cons_append, List.nil_append, List.replicate_succ, List.replicate_zero])
    refine ⟨him, ?_⟩
    conv => whnf
    (try dsimp only [putOuts, wipeD, List.set_cons_zero, List.set_cons_succ, List.cons_append, List.nil_append, List.replicate_succ, List.replicate_zero])
    repeat ((first
      | refine ⟨⟨rfl, Nat.le_of_ble_eq_true rfl⟩, ?_⟩
      | refine ⟨Nat.le_of_ble_eq_true rfl, ?_⟩
      | refine ⟨rfl, ?_⟩
      | refine ⟨⟨List.nodup_nil, rfl, Nat.le_of_ble_eq_true rfl⟩, ?_⟩
      | refine ⟨cpow30, ?_⟩); (conv => whnf); (try dsimp only [putOuts, wipeD, List.set_cons_zero, List.set_cons_succ, List.cons_append, List.nil_append, List.replicate_succ, List.replicate_zero]))
    refine ⟨(by show xs.length + 1 ≤ big; omega), ?_⟩
    conv => whnf
    (try dsimp only [putOuts, wipeD, List.set_cons_zero, List.set_cons_succ, List.cons_append, List.nil_append, List.replicate_succ, List.replicate_zero])
    refine ⟨(by show xs.length + _ ≤ big; omega), ?_⟩
    conv => whnf
    (try dsimp only [putOuts, wipeD, List.set_cons_zero, List.set_cons_succ, List.cons_append, List.nil_append, List.replicate_succ, List.replicate_zero])
    repeat ((first
      | refine ⟨⟨rfl, Nat.le_of_ble_eq_true rfl⟩, ?_⟩
      | refine ⟨Nat.le_of_ble_eq_true rfl, ?_⟩
      | refine ⟨rfl, ?_⟩
      | refine ⟨⟨List.nodup_nil, rfl, Nat.le_of_ble_eq_true rfl⟩, ?_⟩
      | refine ⟨cpow30, ?_⟩); (conv => whnf); (try dsimp only [putOuts, wipeD, List.set_cons_zero, List.set_cons_succ, List.cons_append, List.nil_append, List.replicate_succ, List.replicate_zero]))
    refine ⟨(by show _ + xs.length ≤ big; omega), ?_⟩
    conv => whnf
    (try dsimp only [putOuts, wipeD, List.set_cons_zero, List.set_cons_succ, List.cons_append, List.nil_append, List.replicate_succ, List.replicate_zero])
    refine ⟨(by omega), ?_⟩
    conv => whnf
    (try dsimp only [putOuts, wipeD, List.set_cons_zero, List.set_cons_succ, List.cons_append, List.nil_append, List.replicate_succ, List.replicate_zero])
    repeat ((first
      | refine ⟨⟨rfl, Nat.le_of_ble_eq_true rfl⟩, ?_⟩
      | refine ⟨Nat.le_of_ble_eq_true rfl, ?_⟩
      | refine ⟨rfl, ?_⟩
      | refine ⟨⟨List.nodup_nil, rfl, Nat.le_of_ble_eq_true rfl⟩, ?_⟩
      | refine ⟨cpow30, ?_⟩); (conv => whnf); (try dsimp only [putOuts, wipeD, List.set_cons_zero, List.set_cons_succ, List.cons_append, List.nil_append, List.replicate_succ, List.replicate_zero]))
    refine ⟨⟨rfl, by decide, by decide, by show 9 ≤ 1000; decide⟩, ?_⟩
    conv => whnf
    (try dsimp only [putOuts, wipeD, List.set_cons_zero, List.set_cons_succ, List.cons_append, List.nil_append, List.replicate_succ, List.replicate_zero])
    repeat ((first
      | refine ⟨⟨rfl, Nat.le_of_ble_eq_true rfl⟩, ?_⟩
      | refine ⟨Nat.le_of_ble_eq_true rfl, ?_⟩
      | refine ⟨rfl, ?_⟩
      | refine ⟨⟨List.nodup_nil, rfl, Nat.le_of_ble_eq_true rfl⟩, ?_⟩
      | refine ⟨cpow30, ?_⟩); (conv => whnf); (try dsimp only [putOuts, wipeD, List.set_cons_zero, List.set_cons_succ, List.cons_append, List.nil_append, List.replicate_succ, List.replicate_zero]))
    refine ⟨⟨rfl, rfl, Nat.le_of_ble_eq_true rfl⟩, ?_⟩
    conv => whnf
    (try dsimp only [putOuts, wipeD, List.set_cons_zero, List.set_cons_succ, List.cons_append, List.nil_append, List.replicate_succ, List.replicate_zero])
    refine fin [D.fl xs, .tup (xs ++ [.int 0]), .tup (MP.cutD xs (some 1) none), .tup (MP.cutD xs none (some (-1))), .tup xs.reverse, .tup (xs ++ MP.cutD xs none (some 1)), .tup [.tup xs], .tup (MP.cutD xs none (some 1) ++ xs), .tup (MP.cutD xs none (some 1) ++ MP.cutD xs (some 2) none)] _ _ _ (by rfl) (by show 9 ≤ 9; decide) (fun d hd => tup_items (n := n) (fun x h => tv_pv (hx x h)) hl (by show 2 * (wtAll xs + 1) + 8 ≤ 2 * (wtAll xs + 1) + 8; omega) d hd) fun d L' m' t' hd hL' => ?_
    exact hk d L' m' t' hd hL'
  | non => cases n <;> exact htv.elim
  | bot => cases n <;> exact htv.elim
  | bl _ => cases n <;> exact htv.elim
  | fl _ => cases n <;> exact htv.elim
  | fd _ _ => cases n <;> exact htv.elim
  | lst _ => cases n <;> exact htv.elim
  | dct _ _ => cases n <;> exact htv.elim
  | pr _ => cases n <;> exact htv.elim
  | ins _ _ _ => cases n <;> exact htv.elim
end K36

set_option Elab.async false
set_option linter.all false
set_option maxRecDepth 100000
set_option maxHeartbeats 1000000
namespace K36
open PySem PySem.Spec PyProof.Rows L2 MP
theorem tvs_lay {n : Nat} (ih : ∀ d, tv n d → ∃ p, py d = some p ∧ PyData.canLay0 p = true ∧ PyData.depth p ≤ n) : ∀ {ds : List D}, (∀ d ∈ ds, tv n d) → ∃ xs, pyAll ds = some xs ∧ PyData.canLayAll0 xs = true ∧ PyData.depthAll xs ≤ n ∧ xs.isEmpty = ds.isEmpty
  | [], _ => ⟨[], rfl, rfl, Nat.zero_le _, rfl⟩
  | d :: ds, h => by
    obtain ⟨p, e1, c1, d1⟩ := ih d (h d List.mem_cons_self)
    obtain ⟨xs, e2, c2, d2, _⟩ := tvs_lay ih (ds := ds) fun x hx => h x (List.mem_cons_of_mem _ hx)
    refine ⟨p :: xs, ?_, ?_, ?_, rfl⟩
    · show ((py d).bind fun y => (pyAll ds).map (y :: ·)) = _
      rw [e1, e2]; rfl
    · show (PyData.canLay0 p && PyData.canLayAll0 xs) = true
      rw [c1, c2]; rfl
    · show max (PyData.depth p) (PyData.depthAll xs) ≤ n
      omega
theorem strOk_of {n : Nat} {x : Str} (h : okW n x) : PyData.canLay0 (.str x) = true := by
  unfold PyData.canLay0 PyData.strOk
  rw [← Array.all_toList]
  exact h.2
theorem tv_lay : ∀ (n : Nat) (d : D), tv n d → ∃ p, py d = some p ∧ PyData.canLay0 p = true ∧ PyData.depth p ≤ n
  | n, .int i, _ => ⟨_, rfl, rfl, Nat.zero_le _⟩
  | n, .str x, h => ⟨_, rfl, strOk_of (by cases n <;> exact h), Nat.zero_le _⟩
  | n + 1, .tup xs, h => by
    obtain ⟨ys, e1, c1, d1, _⟩ := tvs_lay (tv_lay n) h.2
    refine ⟨.tuple ys, ?_, ?_, ?_⟩
    · show (pyAll xs).map PyData.tuple = _
      rw [e1]; rfl
    · unfold PyData.canLay0; exact c1
    · unfold PyData.depth; omega
  | 0, .tup _, h => h.elim
  | n, .fl _, h => by cases n <;> exact h.elim
  | n, .bot, h => by cases n <;> exact h.elim
  | n, .non, h => by cases n <;> exact h.elim
  | n, .bl _, h => by cases n <;> exact h.elim
  | n, .fd _ _, h => by cases n <;> exact h.elim
  | n, .lst _, h => by cases n <;> exact h.elim
  | n, .dct _ _, h => by cases n <;> exact h.elim
  | n, .pr _, h => by cases n <;> exact h.elim
  | n, .ins _ _ _, h => by cases n <;> exact h.elim
theorem eqv_nilT {xs : List PyData} : PyData.eqv (.tuple xs) (.tuple []) = xs.isEmpty := by
  cases xs <;> simp [PyData.eqv, PyData.eqvAll]
/-- t == () -/
theorem tv_nil {n : Nat} {xs : List D} (h : ∀ x ∈ xs, tv n x) (hn : n ≤ 40) : ∃ ys, py (.tup xs) = some (.tuple ys) ∧ SeqAt.shaped (.tuple ys) = true ∧ PyData.eqv (.tuple ys) (.tuple []) = xs.isEmpty := by
  obtain ⟨ys, e1, c1, d1, e2⟩ := tvs_lay (tv_lay n) h
  refine ⟨ys, ?_, ?_, ?_⟩
  · show (pyAll xs).map PyData.tuple = _
    rw [e1]; rfl
  · unfold SeqAt.shaped PyData.canLay0 PyData.depth
    rw [c1]
    simp only [Bool.true_and, decide_eq_true_eq]
    omega
  · rw [eqv_nilT, e2]
theorem cut_tailD {xs : List D} {j : Nat} : MP.cutD xs (some ((j : Int) + 1)) none = xs.drop (j + 1) := by
  unfold MP.cutD
  show (xs.drop (if (j : Int) + 1 < 0 then (((j : Int) + 1) + (xs.length : Int)).toNat else min ((j : Int) + 1).toNat xs.length)).take (xs.length - (if (j : Int) + 1 < 0 then (((j : Int) + 1) + (xs.length : Int)).toNat else min ((j : Int) + 1).toNat xs.length)) = _
  rw [if_neg (by omega), show ((j : Int) + 1).toNat = j + 1 by omega]
  by_cases h : j + 1 ≤ xs.length
  · rw [Nat.min_eq_left h, List.take_of_length_le (by rw [List.length_drop]; exact Nat.le_refl _)]
  · rw [Nat.min_eq_right (by omega), Nat.sub_self, List.take_zero, List.drop_of_length_le (by omega)]
def BentAt (n : Nat) (f : FnS) : Prop := ∀ (L : List Int) (m t : Int) (it : D) (k x : OutK), L.length ≤ 63 → tv n it → (∀ d L' m' t', Gv (n + 4) (2 * wt it + 8) d → L'.length ≤ 63 → k d [deck L' m' t', .bot]) → f [deck L m t, it] k x
/-- an item replaced -/
theorem gv_put {n j : Nat} {xs : List D} {d e : D} (hl : xs.length ≤ 40) (hx : ∀ x ∈ xs, tv n x) (he : xs[j]? = some e) (hd : Gv (n + 4) (2 * wt e + 8) d) : Gv (n + 1 + 4) (2 * (wtAll xs + 1) + 8) (.tup (xs.take j ++ [d] ++ xs.drop (j + 1))) := by
  obtain ⟨hj, ee⟩ := List.getElem?_eq_some_iff.mp he
  have ex : xs = xs.take j ++ [e] ++ xs.drop (j + 1) := by
    rw [List.append_assoc, List.singleton_append, ← ee, List.getElem_cons_drop, List.take_append_drop]
  have ew : wtAll xs = wtAll (xs.take j) + wt e + wtAll (xs.drop (j + 1)) := by
    have := congrArg wtAll ex
    rw [wtAll_app, wtAll_app] at this
    have z : wtAll [e] = wt e + 0 := rfl
    omega
  refine (gv_tup (n := n + 4) ?_ (fun y hy => ?_) ?_ : Gv (n + 4 + 1) _ _).up 0 (by omega) (Nat.le_refl _)
  · rw [List.length_append, List.length_append, List.length_take, List.length_drop]
    show min j xs.length + 1 + (xs.length - (j + 1)) ≤ 41
    omega
  · rcases List.mem_append.mp hy with h | h
    · rcases List.mem_append.mp h with h | h
      · exact pv_le (tv_pv (hx y (List.mem_of_mem_take h))) 4
      · have : y = d := by simpa using h
        subst this; exact hd.p
    · exact pv_le (tv_pv (hx y (List.mem_of_mem_drop h))) 4
  · rw [wtAll_app, wtAll_app]
    have z : wtAll [d] = wt d + 0 := rfl
    have := hd.w
    omega
theorem bent_step {f0 f1 f2 f3 f4 f5 f6 f7 f8 : FnS} {g : FnS} {n : Nat} (hd : DrawOk f1) (ho : OddOk f8) (hn : n ≤ 20) (hg : ∀ m, n = m + 1 → BentAt m g) : BentAt n (wpF ([f0, f1, f2, f3, f4, f5, f6, f7, f8] ++ [g]) gloD 2 1 B9) := by
  intro L m t it k x hL htv hk
  have eb : big = 16777216 := rfl
  cases it with
  | int i =>
    refine ⟨⟨rfl, rfl⟩, ?_⟩
    conv => whnf
    (try dsimp only [putOuts, wipeD, List.set_cons_zero, List.set_cons_succ, List.cons_append, List.nil_append, List.replicate_succ, List.replicate_zero])
    refine ⟨fun _ => ?_, fun h => nomatch h⟩
    conv => whnf
    (try dsimp only [putOuts, wipeD, List.set_cons_zero, List.set_cons_succ, List.cons_append, List.nil_append, List.replicate_succ, List.replicate_zero])
    refine ⟨fun _ => ?_, fun h => nomatch h⟩
    conv => whnf
    (try dsimp only [putOuts, wipeD, List.set_cons_zero, List.set_cons_succ, List.cons_append, List.nil_append, List.replicate_succ, List.replicate_zero])
    refine ho L m t n _ _ _ hL htv fun d L' m' t' hd hL' => ?_
    exact hk d L' m' t' hd hL'
  | str i =>
    refine ⟨⟨rfl, rfl⟩, ?_⟩
    conv => whnf
    (try dsimp only [putOuts, wipeD, List.set_cons_zero, List.set_cons_succ, List.cons_append, List.nil_append, List.replicate_succ, List.replicate_zero])
    refine ⟨fun _ => ?_, fun h => nomatch h⟩
    conv => whnf
    (try dsimp only [putOuts, wipeD, List.set_cons_zero, List.set_cons_succ, List.cons_append, List.nil_append, List.replicate_succ, List.replicate_zero])
    refine ⟨fun _ => ?_, fun h => nomatch h⟩
    conv => whnf
    (try dsimp only [putOuts, wipeD, List.set_cons_zero, List.set_cons_succ, List.cons_append, List.nil_append, List.replicate_succ, List.replicate_zero])
    refine ho L m t n _ _ _ hL htv fun d L' m' t' hd hL' => ?_
    exact hk d L' m' t' hd hL'
  | tup xs =>
    cases n with
    | zero => exact htv.elim
    | succ n =>
    obtain ⟨hl, hx⟩ := htv
    have htv : tv (n + 1) (.tup xs) := ⟨hl, hx⟩
    obtain ⟨ys, e1, e2, e3⟩ := tv_nil hx (by omega)
    refine ⟨⟨rfl, rfl⟩, ?_⟩
    conv => whnf
    (try dsimp only [putOuts, wipeD, List.set_cons_zero, List.set_cons_succ, List.cons_append, List.nil_append, List.replicate_succ, List.replicate_zero])
    refine ⟨(fun h => nomatch h), fun _ => ?_⟩
    conv => whnf
    (try dsimp only [putOuts, wipeD, List.set_cons_zero, List.set_cons_succ, List.cons_append, List.nil_append, List.replicate_succ, List.replicate_zero])
    refine ⟨⟨rfl, Nat.le_of_ble_eq_true rfl⟩, ?_⟩
    conv => whnf
    (try dsimp only [putOuts, wipeD, List.set_cons_zero, List.set_cons_succ, List.cons_append, List.nil_append, List.replicate_succ, List.replicate_zero])
    refine ⟨_, _, e1, rfl, e2, rfl, ?_⟩
    rw [e3]
    conv => whnf
    (try dsimp only [putOuts, wipeD, List.set_cons_zero, List.set_cons_succ, List.cons_append, List.nil_append, List.replicate_succ, List.replicate_zero])
    refine ⟨fun _ => ?_, fun hne => ?_⟩
    · conv => whnf
      (try dsimp only [putOuts, wipeD, List.set_cons_zero, List.set_cons_succ, List.cons_append, List.nil_append, List.replicate_succ, List.replicate_zero])
      refine ⟨fun _ => ?_, fun h => nomatch h⟩
      conv => whnf
      (try dsimp only [putOuts, wipeD, List.set_cons_zero, List.set_cons_succ, List.cons_append, List.nil_append, List.replicate_succ, List.replicate_zero])
      refine ho L m t (n + 1) _ _ _ hL htv fun d L' m' t' hd hL' => ?_
      exact hk d L' m' t' hd hL'
    conv => whnf
    (try dsimp only [putOuts, wipeD, List.set_cons_zero, List.set_cons_succ, List.cons_append, List.nil_append, List.replicate_succ, List.replicate_zero])
    refine hd L m t 6 _ _ hL (by decide) (by decide) fun r L1 m1 t1 _ _ hL1 => ?_
    conv => whnf
    (try dsimp only [putOuts, wipeD, List.set_cons_zero, List.set_cons_succ, List.cons_append, List.nil_append, List.replicate_succ, List.replicate_zero])
    refine ⟨fun _ => ?_, fun _ => ?_⟩
    · conv => whnf
      (try dsimp only [putOuts, wipeD, List.set_cons_zero, List.set_cons_succ, List.cons_append, List.nil_append, List.replicate_succ, List.replicate_zero])
      refine ho L1 m1 t1 (n + 1) _ _ _ hL1 htv fun d L' m' t' hd hL' => ?_
      exact hk d L' m' t' hd hL'
    have hpos : 0 < xs.length := by
      cases xs with
      | nil => cases hne
      | cons _ _ => show 0 < _ + 1; omega
    conv => whnf
    (try dsimp only [putOuts, wipeD, List.set_cons_zero, List.set_cons_succ, List.cons_append, List.nil_append, List.replicate_succ, List.replicate_zero])
    refine hd L1 m1 t1 xs.length _ _ hL1 (by omega) (by omega) fun r L2 m2 t2 hr1 hr2 hL2 => ?_
    obtain ⟨j, rfl⟩ : ∃ j : Nat, r = (j : Int) := ⟨r.toNat, by omega⟩
    have hjl : j < xs.length := by omega
    have hix : ixOf (.tup xs) (.int (j : Int)) = some j := by
      show ixN xs.length (j : Int) = _
      unfold ixN
      rw [if_pos (by omega), if_pos (by omega), Int.toNat_natCast]
    have he : xs[j]? = some xs[j] := List.getElem?_eq_getElem hjl
    have hxe := hx _ (List.getElem_mem hjl)
    conv => whnf
    (try dsimp only [putOuts, wipeD, List.set_cons_zero, List.set_cons_succ, List.cons_append, List.nil_append, List.replicate_succ, List.replicate_zero])
    rw [hix]
    refine itemS_im (e := xs[j]) he (tv_im hxe) ?_
    conv => whnf
    (try dsimp only [putOuts, wipeD, List.set_cons_zero, List.set_cons_succ, List.cons_append, List.nil_append, List.replicate_succ, List.replicate_zero])
    refine hg n rfl L2 m2 t2 _ _ _ hL2 hxe fun d L3 m3 t3 hd3 hL3 => ?_
    have him : imAll [d] = true := by
      show (d.im && true) = true
      rw [pv_im hd3.p]; rfl
    conv => whnf
    (try dsimp only [putOuts, wipeD, List.set_cons_zero, List.set_cons_succ, List.cons_append, List.nil_append, List.replicate_succ, List.replicate_zero])
    refine ⟨⟨him, Nat.le_of_ble_eq_true rfl⟩, ?_⟩
    conv => whnf
    (try dsimp only [putOuts, wipeD, List.set_cons_zero, List.set_cons_succ, List.cons_append, List.nil_append, List.replicate_succ, List.replicate_zero])
    rw [show MP.cutD xs none (some (j : Int)) = xs.take j by rw [cut_headD (by omega), Int.toNat_natCast]]
    have h1 : (xs.take j).length ≤ 40 := by rw [List.length_take]; omega
    refine ⟨(by show (xs.take j).length + 1 ≤ big; omega), ?_⟩
    conv => whnf
    (try dsimp only [putOuts, wipeD, List.set_cons_zero, List.set_cons_succ, List.cons_append, List.nil_append, List.replicate_succ, List.replicate_zero])
    rw [show MP.cutD xs (some ((j : Int) + 1)) none = xs.drop (j + 1) from cut_tailD]
    refine ⟨(by rw [List.length_append, List.length_drop]; show (xs.take j).length + 1 + _ ≤ big; omega), ?_⟩
    exact hk _ L3 m3 t3 (gv_put hl hx he hd3) hL3
  | non => cases n <;> exact htv.elim
  | bot => cases n <;> exact htv.elim
  | bl _ => cases n <;> exact htv.elim
  | fl _ => cases n <;> exact htv.elim
  | fd _ _ => cases n <;> exact htv.elim
  | lst _ => cases n <;> exact htv.elim
  | dct _ _ => cases n <;> exact htv.elim
  | pr _ => cases n <;> exact htv.elim
  | ins _ _ _ => cases n <;> exact htv.elim
def BentOk (f : FnS) : Prop := ∀ n, n ≤ 20 → BentAt n f
theorem bent_rec {f0 f1 f2 f3 f4 f5 f6 f7 f8 : FnS} (hd : DrawOk f1) (ho : OddOk f8) : ∀ N n : Nat, n ≤ N → n ≤ 20 → BentAt n (recF [f0, f1, f2, f3, f4, f5, f6, f7, f8] gloD 2 1 B9 (N + 1))
  | 0, n, h, h2 => bent_step hd ho h2 fun m e => absurd e (by omega)
  | N + 1, n, h, h2 => bent_step hd ho h2 fun m e => bent_rec hd ho N m (by omega) (by omega)
theorem bent_ok {f0 f1 f2 f3 f4 f5 f6 f7 f8 : FnS} (hd : DrawOk f1) (ho : OddOk f8) : BentOk (recF [f0, f1, f2, f3, f4, f5, f6, f7, f8] gloD 2 1 B9 24) := fun n h => bent_rec hd ho 23 n (by omega) h
end K36

set_option Elab.async false
set_option linter.all false
set_option maxRecDepth 100000
set_option maxHeartbeats 1000000
namespace K36
open PySem PySem.Spec PyProof.Rows L2 MP
theorem pv_i {n : Nat} {i : Int} (h : i.natAbs < 10 ^ 42) : pv n (.int i) := by cases n <;> exact h
theorem pv_t {n : Nat} {xs : List D} (hl : xs.length ≤ 41) (h : ∀ x ∈ xs, pv n x) : pv (n + 1) (.tup xs) := ⟨hl, h⟩
theorem pv_1 {n : Nat} {a : D} (h : pv n a) : pv (n + 1) (.tup [a]) := pv_t (by show 1 ≤ 41; decide) fun x hx => by
  have : x = a := by simpa using hx
  subst this; exact h
theorem pv_2 {n : Nat} {a b : D} (h : pv n a) (h' : pv n b) : pv (n + 1) (.tup [a, b]) := pv_t (by show 2 ≤ 41; decide) fun x hx => by
  simp only [List.mem_cons, List.not_mem_nil, or_false] at hx
  rcases hx with rfl | rfl
  · exact h
  · exact h'
theorem pv_0 {n : Nat} : pv (n + 1) (.tup []) := pv_t (by decide) fun x hx => nomatch hx
theorem pv_ints {n : Nat} {xs : List D} (hl : xs.length ≤ 41) (h : ∀ x ∈ xs, ∃ i : Int, x = .int i ∧ i.natAbs < 10 ^ 42) : pv (n + 1) (.tup xs) := pv_t hl fun x hx => by
  obtain ⟨i, rfl, hi⟩ := h x hx
  exact pv_i hi
theorem abs40 {i : Int} (h : i.natAbs < 10 ^ 40) : i.natAbs < 10 ^ 42 := Nat.lt_of_lt_of_le h (Nat.le_of_ble_eq_true rfl)
theorem rep_mem {α : Type} {n : Nat} {a x : α} (h : x ∈ (List.replicate n [a]).flatten) : x = a := by
  obtain ⟨l, hl, h2⟩ := List.mem_flatten.mp h
  obtain ⟨_, e⟩ := List.mem_replicate.mp hl
  subst e
  simpa using h2
theorem cpow39 : CPow 10 39 := by unfold CPow; decide
theorem int_small {z : Int} (h : okSize z) : z.natAbs < 10 ^ 42 := by
  have h1 := h.1
  have h2 := h.2
  have : z.natAbs < 100 := by omega
  exact Nat.lt_of_lt_of_le this (Nat.le_of_ble_eq_true rfl)
theorem lit {i : Int} (h : i.natAbs < 100) : i.natAbs < 10 ^ 42 := Nat.lt_of_lt_of_le h (Nat.le_of_ble_eq_true rfl)
theorem intsD_mem {zs : List Int} (hz : ∀ z ∈ zs, z.natAbs < 10 ^ 42) : ∀ x ∈ intsD zs, ∃ i : Int, x = .int i ∧ i.natAbs < 10 ^ 42 := fun x hx => by
  obtain ⟨z, hm, rfl⟩ := List.mem_map.mp hx
  exact ⟨z, rfl, hz z hm⟩
theorem mem2 {A B : List D} (ha : ∀ x ∈ A, ∃ i : Int, x = .int i ∧ i.natAbs < 10 ^ 42) (hb : ∀ x ∈ B, ∃ i : Int, x = .int i ∧ i.natAbs < 10 ^ 42) : ∀ x ∈ A ++ B, ∃ i : Int, x = .int i ∧ i.natAbs < 10 ^ 42 := fun x hx => by
  rcases List.mem_append.mp hx with h | h
  · exact ha x h
  · exact hb x h
theorem mem1 {i : Int} (h : i.natAbs < 10 ^ 42) : ∀ x ∈ [D.int i], ∃ i : Int, x = .int i ∧ i.natAbs < 10 ^ 42 := fun x hx => ⟨i, by simpa using hx, h⟩
theorem memR {i : Int} {n : Nat} (h : i.natAbs < 10 ^ 42) : ∀ x ∈ (List.replicate n [D.int i]).flatten, ∃ i : Int, x = .int i ∧ i.natAbs < 10 ^ 42 := fun x hx => ⟨i, rep_mem hx, h⟩
theorem pv_all_im {n : Nat} {ds : List D} (h : ∀ d ∈ ds, pv n d) : imAll ds = true := imAll_of fun d hd => pv_im (h d hd)
def GreatOk (f : FnS) : Prop := ∀ (L : List Int) (m t : Int) (zs : List Int) (k x : OutK), L.length ≤ 63 → zs.length ≤ 8 → (∀ z ∈ zs, okSize z) → (∀ d L' m' t', pv 5 d → L'.length ≤ 63 → k d [deck L' m' t', .bot]) → f [deck L m t, tupI zs] k x
theorem great_ok {f0 f1 f2 f3 f4 f5 f6 f7 f8 f9 : FnS} (hd : DrawOk f1) (hp : PickOk f2) (hp2 : PickLOk f2) : GreatOk (wpF [f0, f1, f2, f3, f4, f5, f6, f7, f8, f9] gloD 2 5 B10) := by
  intro L m t zs k x hL hzl hzs hk
  have eb : big = 16777216 := rfl
  have el : (intsD zs).length = zs.length := by rw [intsD, List.length_map]
  refine ⟨⟨rfl, rfl⟩, ?_⟩
  conv => whnf
  (try dsimp only [putOuts, wipeD, List.set_cons_zero, List.set_cons_succ, List.cons_append, List.nil_append, List.replicate_succ, List.replicate_zero])
  refine ⟨cpow39, ?_⟩
  conv => whnf
  (try dsimp only [putOuts, wipeD, List.set_cons_zero, List.set_cons_succ, List.cons_append, List.nil_append, List.replicate_succ, List.replicate_zero])
  refine ⟨⟨rfl, Nat.le_of_ble_eq_true rfl⟩, ?_⟩
  conv => whnf
  (try dsimp only [putOuts, wipeD, List.set_cons_zero, List.set_cons_succ, List.cons_append, List.nil_append, List.replicate_succ, List.replicate_zero])
  refine hp L m t _ _ _ hL (by simp) (by decide) rfl fun d L1 m1 t1 hd1 hL1 => ?_
  obtain ⟨s, rfl, hs⟩ : ∃ s : Int, d = .int s ∧ 1 ≤ s ∧ s ≤ 10 ^ 39 := by
    simp only [List.mem_cons, List.not_mem_nil, or_false] at hd1
    rcases hd1 with rfl | rfl | rfl
    · exact ⟨_, rfl, by decide, by decide⟩
    · exact ⟨_, rfl, by decide, by decide⟩
    · exact ⟨_, rfl, by decide +kernel, by decide +kernel⟩
  have e39 : (10 : Nat) ^ 39 < 10 ^ 42 - 1 := Nat.le_of_ble_eq_true rfl
  have e39' : ((10 : Int) ^ 39).natAbs = 10 ^ 39 := rfl
  have hs1 : s.natAbs < 10 ^ 42 := by
    have : (10 : Int) ^ 39 = ((10 ^ 39 : Nat) : Int) := rfl
    rw [this] at hs
    generalize (10 : Nat) ^ 39 = q at hs e39
    generalize (10 : Nat) ^ 42 = q2 at e39 ⊢
    omega
  have hs2 : (s - 1).natAbs < 10 ^ 42 := by omega
  conv => whnf
  (try dsimp only [putOuts, wipeD, List.set_cons_zero, List.set_cons_succ, List.cons_append, List.nil_append, List.replicate_succ, List.replicate_zero])
  refine ⟨⟨by decide, by decide, by decide, by decide⟩, rfl, ?_⟩
  refine forC_of (fun i acc σ => ∃ (L' : List Int) (m' t' : Int), L'.length ≤ 63 ∧ acc.length ≤ i ∧ (∀ d ∈ acc, pv 2 d) ∧ σ = [deck L' m' t', tupI zs, .bot, .bot, .int s, .int (intsD zs).length, .bot]) ⟨L1, m1, t1, hL1, Nat.le_refl _, (fun d h => nomatch h), rfl⟩ (fun _ _ _ _ => trivial) (fun i d acc σ k2 hd2 hi h1 h2 => ?_) (fun i acc σ hi hI => ?_) fun acc σ hI => ?_
  · obtain ⟨L', m', t', hL', ha, hpv, rfl⟩ := hi
    obtain ⟨hi2, rfl⟩ := intsUp_get hd2
    have hi3 : i < 5 := by simpa using hi2
    conv => whnf
    (try dsimp only [putOuts, wipeD, List.set_cons_zero, List.set_cons_succ, List.cons_append, List.nil_append, List.replicate_succ, List.replicate_zero])
    refine ⟨fun _ => ?_, fun h => nomatch h⟩
    conv => whnf
    (try dsimp only [putOuts, wipeD, List.set_cons_zero, List.set_cons_succ, List.cons_append, List.nil_append, List.replicate_succ, List.replicate_zero])
    refine hd L' m' t' 2 _ _ hL' (by decide) (by decide) fun r L2 m2 t2 hr1 hr2 hL2 => ?_
    conv => whnf
    (try dsimp only [putOuts, wipeD, List.set_cons_zero, List.set_cons_succ, List.cons_append, List.nil_append, List.replicate_succ, List.replicate_zero])
    refine ⟨⟨rfl, Nat.le_of_ble_eq_true rfl⟩, ?_⟩
    conv => whnf
    (try dsimp only [putOuts, wipeD, List.set_cons_zero, List.set_cons_succ, List.cons_append, List.nil_append, List.replicate_succ, List.replicate_zero])
    refine ⟨⟨rfl, Nat.le_of_ble_eq_true rfl⟩, ?_⟩
    conv => whnf
    (try dsimp only [putOuts, wipeD, List.set_cons_zero, List.set_cons_succ, List.cons_append, List.nil_append, List.replicate_succ, List.replicate_zero])
    refine h1 _ _ ⟨L2, m2, t2, hL2, by rw [List.length_append]; show acc.length + 1 ≤ _; omega, fun e he => ?_, rfl⟩
    rcases List.mem_append.mp he with h | h
    · exact hpv e h
    · have : e = .tup [.int (0 + i), .tup [.int r]] := by simpa using h
      subst this
      exact pv_2 (pv_i (lit (by omega))) (pv_1 (pv_i (lit (by omega))))
  · obtain ⟨L', m', t', hL', ha, hpv, rfl⟩ := hI
    rw [intsUp_len] at hi
    omega
  obtain ⟨L2, m2, t2, hL2, ha, hpv, rfl⟩ := hI
  have ha : acc.length ≤ 5 := by rw [intsUp_len] at ha; exact ha
  have hfive : pv 3 (.tup acc) := pv_t (by omega) hpv
  have pz := intsD_mem fun z hz => int_small (hzs z hz)
  conv => whnf
  (try dsimp only [putOuts, wipeD, List.set_cons_zero, List.set_cons_succ, List.cons_append, List.nil_append, List.replicate_succ, List.replicate_zero])
  refine ⟨pv_all_im hpv, ?_⟩
  conv => whnf
  (try dsimp only [putOuts, wipeD, List.set_cons_zero, List.set_cons_succ, List.cons_append, List.nil_append, List.replicate_succ, List.replicate_zero])
  repeat ((first
    | refine ⟨⟨rfl, Nat.le_of_ble_eq_true rfl⟩, ?_⟩
    | refine ⟨Nat.le_of_ble_eq_true rfl, ?_⟩
    | refine ⟨⟨imAll_ints, Nat.le_of_ble_eq_true rfl⟩, ?_⟩
    | refine ⟨⟨List.cons_ne_nil _ _, by decide, by decide, Nat.le_of_ble_eq_true rfl⟩, ?_⟩
    | refine ⟨⟨rfl, rfl, Nat.le_of_ble_eq_true rfl⟩, ?_⟩
    | refine ⟨(by simp only [List.length_append, List.length_cons, List.length_nil, rep_len, el, eb]; omega), ?_⟩); (conv => whnf); (try dsimp only [putOuts, wipeD, List.set_cons_zero, List.set_cons_succ, List.cons_append, List.nil_append, List.replicate_succ, List.replicate_zero]))
  refine hp2 L2 m2 t2 _ _ _ hL2 (by simp) (Nat.le_of_ble_eq_true rfl) rfl fun d L3 m3 t3 hd3 hL3 => ?_
  refine hk d L3 m3 t3 ?_ hL3
  have hd3 : d ∈ [D.tup [.tup ([D.int s] ++ intsD zs), .tup []], .tup [.tup (intsD zs ++ [D.int s]), .tup [.tup [.tup [.int (intsD zs).length, .tup [.int 0, .int (s - 1)]]]]], .tup [.tup (intsD zs ++ [D.int s]), .tup [.tup [.tup [.int (intsD zs).length, .tup [.int 0, .int s]]]]],
    .tup [.tup ((List.replicate (5 : Int).toNat [D.int 2]).flatten ++ intsD zs), .tup [.tup acc]], .tup [.tup ((List.replicate (4 : Int).toNat [D.int 2]).flatten ++ [D.int 1] ++ intsD zs), .tup [.tup acc]], .tup [.tup (List.replicate (30 : Int).toNat [D.int 2]).flatten, .tup [.tup [.tup [.int 29, .tup [.int 1]]]]]] := hd3
  simp only [List.mem_cons, List.not_mem_nil, or_false] at hd3
  have two : ((2 : Int)).natAbs < 10 ^ 42 := lit (by decide)
  have hn : ((intsD zs).length : Int).natAbs < 10 ^ 42 := lit (by omega)
  have l4 : ∀ n, ((List.replicate n [D.int 2]).flatten).length = n := fun n => by rw [rep_len]; simp
  rcases hd3 with rfl | rfl | rfl | rfl | rfl | rfl
  · exact pv_2 (pv_ints (by rw [List.length_append, el]; show 1 + _ ≤ 41; omega) (mem2 (mem1 hs1) pz)) pv_0
  · exact pv_2 (pv_ints (by rw [List.length_append, el]; show _ + 1 ≤ 41; omega) (mem2 pz (mem1 hs1))) (pv_1 (pv_1 (pv_2 (pv_i hn) (pv_2 (pv_i (lit (by decide))) (pv_i hs2)))))
  · exact pv_2 (pv_ints (by rw [List.length_append, el]; show _ + 1 ≤ 41; omega) (mem2 pz (mem1 hs1))) (pv_1 (pv_1 (pv_2 (pv_i hn) (pv_2 (pv_i (lit (by decide))) (pv_i hs1)))))
  · exact pv_2 (pv_ints (by rw [List.length_append, el, l4]; show 5 + _ ≤ 41; omega) (mem2 (memR two) pz)) (pv_1 (a := .tup acc) hfive)
  · exact pv_2 (pv_ints (by rw [List.length_append, List.length_append, el, l4]; show 4 + 1 + _ ≤ 41; omega) (mem2 (mem2 (memR two) (mem1 (lit (by decide)))) pz)) (pv_1 (a := .tup acc) hfive)
  · exact pv_2 (pv_ints (by rw [l4]; decide) (memR two)) (pv_1 (pv_1 (pv_2 (pv_i (lit (by decide))) (pv_1 (pv_i (lit (by decide)))))))
end K36

set_option Elab.async false
set_option linter.all false
set_option maxRecDepth 100000
set_option maxHeartbeats 1000000
namespace K36
open PySem PySem.Spec PyProof.Rows L2 MP
/-- a value that is no tuple -/
inductive NT : D → Prop
  | non : NT .non
  | bl (b : Bool) : NT (.bl b)
  | int (i : Int) : NT (.int i)
  | str (x : Str) : NT (.str x)
  | fd : NT (.fd [] [])
  | fl (xs : List D) : NT (.fl xs)
theorem pv_cases : ∀ {n : Nat} {d : D}, pv n d → (∃ m xs, n = m + 1 ∧ d = .tup xs ∧ xs.length ≤ 41 ∧ ∀ x ∈ xs, pv m x) ∨ NT d
  | n, .non, _ => .inr .non
  | n, .bl _, _ => .inr (.bl _)
  | n, .int i, h => .inr (.int _)
  | n, .str x, h => .inr (.str _)
  | n, .fd ks xs, h => by
    have h : ks = [] ∧ xs = [] := by cases n <;> exact h
    obtain ⟨rfl, rfl⟩ := h
    exact .inr .fd
  | n + 1, .tup xs, h => .inl ⟨n, xs, rfl, rfl, h.1, h.2⟩
  | n + 1, .fl xs, h => .inr (.fl _)
  | 0, .tup _, h => h.elim
  | 0, .fl _, h => h.elim
  | n, .bot, h => by cases n <;> exact h.elim
  | n, .lst _, h => by cases n <;> exact h.elim
  | n, .dct _ _, h => by cases n <;> exact h.elim
  | n, .pr _, h => by cases n <;> exact h.elim
  | n, .ins _ _ _, h => by cases n <;> exact h.elim
def intB : D → Bool
  | .int _ => true
  | _ => false
def iv : D → Int
  | .int i => i
  | _ => 0
def betB (l m : Int) : D → Bool
  | .int i => decide (l ≤ i) && decide (i ≤ m)
  | _ => false
def szB1 : D → Bool
  | .int i => decide (1 ≤ i)
  | _ => false
def rowB (n : Int) : D → Bool
  | .tup xs => decide ((xs.length : Int) = n)
  | _ => false
def areB (l m : Int) : D → Bool
  | .tup xs => xs.all (betB l m)
  | _ => false
def sizesB : D → Bool
  | .tup xs => xs.all szB1
  | _ => false
def riseB (ns : List Int) : Bool := (ns.zip (ns.drop 1)).all fun p => decide (p.1 < p.2)
def marksB (z : Int) : D → Bool
  | .tup ys => ys.all (betB 0 (z - 1)) && (riseB (ys.map iv) && (decide (1 ≤ (ys.length : Int)) && decide ((ys.length : Int) < z)))
  | _ => false
def termB (zs : List Int) : D → Bool
  | .tup [a, b] => betB 0 (zs.length - 1) a && marksB (zs.getD (iv a).toNat 0) b
  | _ => false
def firstI : D → Int
  | .tup (a :: _) => iv a
  | _ => 0
def barB (zs : List Int) : D → Bool
  | .tup ts => ts.all (termB zs) && riseB (ts.map firstI)
  | _ => false
def kidI : D → List Int
  | .tup xs => xs.map iv
  | _ => []
def probB : D → Bool
  | .tup [a, .tup bs] => sizesB a && bs.all (barB (kidI a))
  | _ => false
def choiceB (zs : List Int) : D → Bool
  | .tup xs => decide ((xs.length : Int) = (zs.length : Int)) && (xs.zip zs).all fun p => betB 0 (p.2 - 1) p.1
  | _ => false
theorem betB_int {l m : Int} {d : D} (h : betB l m d = true) : ∃ i, d = .int i ∧ l ≤ i ∧ i ≤ m := by
  cases d <;> first | (cases h; done) | skip
  rename_i i
  have h : (decide (l ≤ i) && decide (i ≤ m)) = true := h
  simp only [Bool.and_eq_true, decide_eq_true_eq] at h
  exact ⟨i, rfl, h⟩
theorem szB1_int {d : D} (h : szB1 d = true) : ∃ i, d = .int i ∧ 1 ≤ i := by
  cases d <;> first | (cases h; done) | skip
  rename_i i
  exact ⟨i, rfl, of_decide_eq_true h⟩
theorem all_ints {p : D → Bool} (hp : ∀ d, p d = true → ∃ i, d = .int i) : ∀ {xs : List D}, xs.all p = true → xs = intsD (xs.map iv)
  | [], _ => rfl
  | x :: xs, h => by
    rw [List.all_cons, Bool.and_eq_true] at h
    obtain ⟨i, rfl⟩ := hp x h.1
    show D.int i :: xs = D.int i :: intsD (xs.map iv)
    rw [← all_ints hp h.2]
theorem bls_map {g : D → Bool} : ∀ {xs : List D}, bls? (xs.filterMap fun d => some (D.bl (g d))) = some (xs.map g)
  | [] => rfl
  | x :: xs => by
    show (bls? (xs.filterMap fun d => some (D.bl (g d)))).map (g x :: ·) = _
    rw [bls_map]; rfl
theorem all_map_id {α : Type} {g : α → Bool} {xs : List α} : (xs.map g).all id = xs.all g := by rw [List.all_map]; rfl
def IntG (f : FnS) : Prop := ∀ (n : Nat) (d : D) (k x : OutK), pv n d → k (.bl (intB d)) [.bot] → f [d] k x
theorem intG_ok {f0 f1 f2 f3 f4 f5 f6 f7 f8 f9 f10 f11 : FnS} : IntG (wpF [f0, f1, f2, f3, f4, f5, f6, f7, f8, f9, f10, f11] gloD 1 0 B12) := by
  intro n d k x hv hk
  rcases pv_cases hv with ⟨m, xs, rfl, rfl, hl, hx⟩ | h
  · refine ⟨⟨rfl, rfl⟩, ?_⟩
    conv => whnf
    (try dsimp only [putOuts, wipeD, List.set_cons_zero, List.set_cons_succ, List.cons_append, List.nil_append, List.replicate_succ, List.replicate_zero])
    refine ⟨(fun h => nomatch h), fun _ => ?_⟩
    exact hk
  · cases h with
    | bl b =>
      refine ⟨⟨rfl, rfl⟩, ?_⟩
      conv => whnf
      (try dsimp only [putOuts, wipeD, List.set_cons_zero, List.set_cons_succ, List.cons_append, List.nil_append, List.replicate_succ, List.replicate_zero])
      refine ⟨fun _ => ?_, fun h => nomatch h⟩
      exact hk
    | int i =>
      refine ⟨⟨rfl, rfl⟩, ?_⟩
      conv => whnf
      (try dsimp only [putOuts, wipeD, List.set_cons_zero, List.set_cons_succ, List.cons_append, List.nil_append, List.replicate_succ, List.replicate_zero])
      refine ⟨fun _ => ?_, fun h => nomatch h⟩
      exact hk
    | _ =>
      refine ⟨⟨rfl, rfl⟩, ?_⟩
      conv => whnf
      (try dsimp only [putOuts, wipeD, List.set_cons_zero, List.set_cons_succ, List.cons_append, List.nil_append, List.replicate_succ, List.replicate_zero])
      refine ⟨(fun h => nomatch h), fun _ => ?_⟩
      exact hk
def BetG (f : FnS) : Prop := ∀ (n : Nat) (d : D) (l m : Int) (k x : OutK), pv n d → k (.bl (betB l m d)) [.bot, .bot, .bot] → f [d, .int l, .int m] k x
def BetS (f : FnS) : Prop := ∀ (n : Nat) (d : D) (k x : OutK), pv n d → k (.bl (szB1 d)) [.bot, .bot, .bot] → f [d, .int 1, d] k x
theorem betG_ok {f0 f1 f2 f3 f4 f5 f6 f7 f8 f9 f10 f11 f12 : FnS} (h : IntG f12) : BetG (wpF [f0, f1, f2, f3, f4, f5, f6, f7, f8, f9, f10, f11, f12] gloD 3 0 B13) := by
  intro n d l m k x hv hk
  rcases pv_cases hv with ⟨n, xs, rfl, rfl, hl, hx⟩ | hn
  · refine ⟨⟨rfl, rfl⟩, ?_⟩
    conv => whnf
    (try dsimp only [putOuts, wipeD, List.set_cons_zero, List.set_cons_succ, List.cons_append, List.nil_append, List.replicate_succ, List.replicate_zero])
    refine h _ _ _ _ hv ?_
    refine ⟨(fun h => nomatch h), fun _ => ?_⟩
    exact hk
  · cases hn with
    | int i =>
      refine ⟨⟨rfl, rfl⟩, ?_⟩
      conv => whnf
      (try dsimp only [putOuts, wipeD, List.set_cons_zero, List.set_cons_succ, List.cons_append, List.nil_append, List.replicate_succ, List.replicate_zero])
      refine h _ _ _ _ hv ?_
      refine ⟨fun _ => ?_, fun h => nomatch h⟩
      conv => whnf
      (try dsimp only [putOuts, wipeD, List.set_cons_zero, List.set_cons_succ, List.cons_append, List.nil_append, List.replicate_succ, List.replicate_zero])
      have hk : k (.bl (decide (l ≤ i) && decide (i ≤ m))) [.bot, .bot, .bot] := hk
      refine ⟨fun h => ?_, fun h => ?_⟩
      · conv => whnf
        (try dsimp only [putOuts, wipeD, List.set_cons_zero, List.set_cons_succ, List.cons_append, List.nil_append, List.replicate_succ, List.replicate_zero])
        rw [h] at hk
        exact hk
      · rw [h] at hk
        exact hk
    | _ =>
      refine ⟨⟨rfl, rfl⟩, ?_⟩
      conv => whnf
      (try dsimp only [putOuts, wipeD, List.set_cons_zero, List.set_cons_succ, List.cons_append, List.nil_append, List.replicate_succ, List.replicate_zero])
      refine h _ _ _ _ hv ?_
      refine ⟨(fun h => nomatch h), fun _ => ?_⟩
      exact hk
theorem betS_ok {f0 f1 f2 f3 f4 f5 f6 f7 f8 f9 f10 f11 f12 : FnS} (h : IntG f12) : BetS (wpF [f0, f1, f2, f3, f4, f5, f6, f7, f8, f9, f10, f11, f12] gloD 3 0 B13) := by
  intro n d k x hv hk
  rcases pv_cases hv with ⟨n, xs, rfl, rfl, hl, hx⟩ | hn
  · refine ⟨⟨rfl, rfl⟩, ?_⟩
    conv => whnf
    (try dsimp only [putOuts, wipeD, List.set_cons_zero, List.set_cons_succ, List.cons_append, List.nil_append, List.replicate_succ, List.replicate_zero])
    refine h _ _ _ _ hv ?_
    refine ⟨(fun h => nomatch h), fun _ => ?_⟩
    exact hk
  · cases hn with
    | int i =>
      refine ⟨⟨rfl, rfl⟩, ?_⟩
      conv => whnf
      (try dsimp only [putOuts, wipeD, List.set_cons_zero, List.set_cons_succ, List.cons_append, List.nil_append, List.replicate_succ, List.replicate_zero])
      refine h _ _ _ _ hv ?_
      refine ⟨fun _ => ?_, fun h => nomatch h⟩
      conv => whnf
      (try dsimp only [putOuts, wipeD, List.set_cons_zero, List.set_cons_succ, List.cons_append, List.nil_append, List.replicate_succ, List.replicate_zero])
      have hk : k (.bl (decide (1 ≤ i))) [.bot, .bot, .bot] := hk
      refine ⟨fun h => ?_, fun h => ?_⟩
      · conv => whnf
        (try dsimp only [putOuts, wipeD, List.set_cons_zero, List.set_cons_succ, List.cons_append, List.nil_append, List.replicate_succ, List.replicate_zero])
        rw [h] at hk
        rw [decide_eq_true (Int.le_refl i)]
        exact hk
      · rw [h] at hk
        exact hk
    | _ =>
      refine ⟨⟨rfl, rfl⟩, ?_⟩
      conv => whnf
      (try dsimp only [putOuts, wipeD, List.set_cons_zero, List.set_cons_succ, List.cons_append, List.nil_append, List.replicate_succ, List.replicate_zero])
      refine h _ _ _ _ hv ?_
      refine ⟨(fun h => nomatch h), fun _ => ?_⟩
      exact hk
def RowG (f : FnS) : Prop := ∀ (n : Nat) (d : D) (m : Int) (k x : OutK), pv n d → k (.bl (rowB m d)) [.bot, .bot] → f [d, .int m] k x
theorem rowG_ok {f0 f1 f2 f3 f4 f5 f6 f7 f8 f9 f10 : FnS} : RowG (wpF [f0, f1, f2, f3, f4, f5, f6, f7, f8, f9, f10] gloD 2 0 B11) := by
  intro n d m k x hv hk
  rcases pv_cases hv with ⟨n, xs, rfl, rfl, hl, hx⟩ | hn
  · refine ⟨⟨rfl, rfl⟩, ?_⟩
    conv => whnf
    (try dsimp only [putOuts, wipeD, List.set_cons_zero, List.set_cons_succ, List.cons_append, List.nil_append, List.replicate_succ, List.replicate_zero])
    refine ⟨fun _ => ?_, fun h => nomatch h⟩
    exact hk
  · cases hn with
    | _ =>
      refine ⟨⟨rfl, rfl⟩, ?_⟩
      conv => whnf
      (try dsimp only [putOuts, wipeD, List.set_cons_zero, List.set_cons_succ, List.cons_append, List.nil_append, List.replicate_succ, List.replicate_zero])
      refine ⟨(fun h => nomatch h), fun _ => ?_⟩
      exact hk
def AreG (f : FnS) : Prop := ∀ (n : Nat) (d : D) (l m : Int) (k x : OutK), pv n d → k (.bl (areB l m d)) [.bot, .bot, .bot] → f [d, .int l, .int m] k x
theorem areG_ok {f0 f1 f2 f3 f4 f5 f6 f7 f8 f9 f10 f11 f12 f13 f14 f15 : FnS} (h : BetG f13) : AreG (wpF [f0, f1, f2, f3, f4, f5, f6, f7, f8, f9, f10, f11, f12, f13, f14, f15] gloD 3 1 B16) := by
  intro n d l m k x hv hk
  have eb : big = 16777216 := rfl
  rcases pv_cases hv with ⟨n, xs, rfl, rfl, hl, hx⟩ | hn
  · refine ⟨⟨rfl, rfl⟩, ?_⟩
    conv => whnf
    (try dsimp only [putOuts, wipeD, List.set_cons_zero, List.set_cons_succ, List.cons_append, List.nil_append, List.replicate_succ, List.replicate_zero])
    refine ⟨fun _ => ?_, fun h => nomatch h⟩
    conv => whnf
    (try dsimp only [putOuts, wipeD, List.set_cons_zero, List.set_cons_succ, List.cons_append, List.nil_append, List.replicate_succ, List.replicate_zero])
    refine ⟨rfl, ?_⟩
    refine forC_map (fun d => some (.bl (betB l m d))) trivial (by omega) (fun d k2 hd hk2 => ?_) ?_
    · have hp := hx d hd
      have hi := pv_im hp
      conv => whnf
      (try dsimp only [putOuts, wipeD, List.set_cons_zero, List.set_cons_succ, List.cons_append, List.nil_append, List.replicate_succ, List.replicate_zero])
      rw [hi]
      conv => whnf
      (try dsimp only [putOuts, wipeD, List.set_cons_zero, List.set_cons_succ, List.cons_append, List.nil_append, List.replicate_succ, List.replicate_zero])
      refine ⟨fun _ => ?_, fun h => nomatch h⟩
      conv => whnf
      (try dsimp only [putOuts, wipeD, List.set_cons_zero, List.set_cons_succ, List.cons_append, List.nil_append, List.replicate_succ, List.replicate_zero])
      rw [hi]
      conv => whnf
      (try dsimp only [putOuts, wipeD, List.set_cons_zero, List.set_cons_succ, List.cons_append, List.nil_append, List.replicate_succ, List.replicate_zero])
      refine h n d l m _ _ hp ?_
      exact hk2
    conv => whnf
    (try dsimp only [putOuts, wipeD, List.set_cons_zero, List.set_cons_succ, List.cons_append, List.nil_append, List.replicate_succ, List.replicate_zero])
    rw [bls_map]
    conv => whnf
    (try dsimp only [putOuts, wipeD, List.set_cons_zero, List.set_cons_succ, List.cons_append, List.nil_append, List.replicate_succ, List.replicate_zero])
    rw [all_map_id]
    exact hk
  · cases hn with
    | _ =>
      refine ⟨⟨rfl, rfl⟩, ?_⟩
      conv => whnf
      (try dsimp only [putOuts, wipeD, List.set_cons_zero, List.set_cons_succ, List.cons_append, List.nil_append, List.replicate_succ, List.replicate_zero])
      refine ⟨(fun h => nomatch h), fun _ => ?_⟩
      exact hk
end K36

set_option Elab.async false
set_option linter.all false
set_option maxRecDepth 100000
set_option maxHeartbeats 1000000
namespace K36
open PySem PySem.Spec PyProof.Rows L2 MP
def SzG (f : FnS) : Prop := ∀ (n : Nat) (d : D) (k x : OutK), pv n d → k (.bl (sizesB d)) [.bot] → f [d] k x
theorem szG_ok {f0 f1 f2 f3 f4 f5 f6 f7 f8 f9 f10 f11 f12 f13 : FnS} (h : BetS f13) : SzG (wpF [f0, f1, f2, f3, f4, f5, f6, f7, f8, f9, f10, f11, f12, f13] gloD 1 1 B14) := by
  intro n d k x hv hk
  have eb : big = 16777216 := rfl
  rcases pv_cases hv with ⟨n, xs, rfl, rfl, hl, hx⟩ | hn
  · refine ⟨⟨rfl, rfl⟩, ?_⟩
    conv => whnf
    (try dsimp only [putOuts, wipeD, List.set_cons_zero, List.set_cons_succ, List.cons_append, List.nil_append, List.replicate_succ, List.replicate_zero])
    refine ⟨fun _ => ?_, fun h => nomatch h⟩
    conv => whnf
    (try dsimp only [putOuts, wipeD, List.set_cons_zero, List.set_cons_succ, List.cons_append, List.nil_append, List.replicate_succ, List.replicate_zero])
    refine ⟨rfl, ?_⟩
    refine forC_map (fun d => some (.bl (szB1 d))) trivial (by omega) (fun d k2 hd hk2 => ?_) ?_
    · have hp := hx d hd
      have hi := pv_im hp
      conv => whnf
      (try dsimp only [putOuts, wipeD, List.set_cons_zero, List.set_cons_succ, List.cons_append, List.nil_append, List.replicate_succ, List.replicate_zero])
      rw [hi]
      conv => whnf
      (try dsimp only [putOuts, wipeD, List.set_cons_zero, List.set_cons_succ, List.cons_append, List.nil_append, List.replicate_succ, List.replicate_zero])
      refine ⟨fun _ => ?_, fun h => nomatch h⟩
      conv => whnf
      (try dsimp only [putOuts, wipeD, List.set_cons_zero, List.set_cons_succ, List.cons_append, List.nil_append, List.replicate_succ, List.replicate_zero])
      rw [hi]
      conv => whnf
      (try dsimp only [putOuts, wipeD, List.set_cons_zero, List.set_cons_succ, List.cons_append, List.nil_append, List.replicate_succ, List.replicate_zero])
      rw [hi]
      conv => whnf
      (try dsimp only [putOuts, wipeD, List.set_cons_zero, List.set_cons_succ, List.cons_append, List.nil_append, List.replicate_succ, List.replicate_zero])
      refine h n d _ _ hp ?_
      exact hk2
    conv => whnf
    (try dsimp only [putOuts, wipeD, List.set_cons_zero, List.set_cons_succ, List.cons_append, List.nil_append, List.replicate_succ, List.replicate_zero])
    rw [bls_map]
    conv => whnf
    (try dsimp only [putOuts, wipeD, List.set_cons_zero, List.set_cons_succ, List.cons_append, List.nil_append, List.replicate_succ, List.replicate_zero])
    rw [all_map_id]
    exact hk
  · cases hn with
    | _ =>
      refine ⟨⟨rfl, rfl⟩, ?_⟩
      conv => whnf
      (try dsimp only [putOuts, wipeD, List.set_cons_zero, List.set_cons_succ, List.cons_append, List.nil_append, List.replicate_succ, List.replicate_zero])
      refine ⟨(fun h => nomatch h), fun _ => ?_⟩
      exact hk
theorem zip_riseB {ns : List Int} : (zipD (intsD ns) ((intsD ns).drop 1)) = (ns.zip (ns.drop 1)).map fun p => D.pr [.int p.1, .int p.2] := by
  have key : ∀ (a b : List Int), zipD (intsD a) (intsD b) = (a.zip b).map fun p => D.pr [.int p.1, .int p.2] := by
    intro a
    induction a with
    | nil => intro b; cases b <;> rfl
    | cons x a ih =>
      intro b
      cases b with
      | nil => rfl
      | cons y b => show D.pr [.int x, .int y] :: zipD (intsD a) (intsD b) = _; rw [ih]; rfl
  rw [← key]
  rw [intsD, intsD, List.map_drop]
def ltP : D → Bool
  | .pr [.int a, .int b] => decide (a < b)
  | _ => false
theorem all_zip {ns : List Int} : (zipD (intsD ns) ((intsD ns).drop 1)).all ltP = riseB ns := by
  rw [zip_riseB, List.all_map]; rfl
theorem zip_ints {ns : List Int} {d : D} (hd : d ∈ zipD (intsD ns) ((intsD ns).drop 1)) : ∃ a b : Int, d = .pr [.int a, .int b] := by
  rw [zip_riseB] at hd
  obtain ⟨p, _, rfl⟩ := List.mem_map.mp hd
  exact ⟨_, _, rfl⟩
theorem cut_tl {ds : List D} : MP.cutD ds (some 1) none = ds.drop 1 := cut_tailD (j := 0)
theorem imAll_dropI {ns : List Int} : imAll ((intsD ns).drop 1) = true := by
  rw [intsD, ← List.map_drop]; exact imAll_ints
theorem zip_few {ns : List Int} (h : ns.length ≤ 1000) : (zipD (intsD ns) ((intsD ns).drop 1)).length ≤ big := by
  rw [zipD_len, intsD, List.length_map]
  have : big = 16777216 := rfl
  omega
def RiseG (f : FnS) : Prop := ∀ (ns : List Int) (k x : OutK), ns.length ≤ 1000 → k (.bl (riseB ns)) [.bot] → f [tupI ns] k x
def RiseGL (f : FnS) : Prop := ∀ (ns : List Int) (k x : OutK), ns.length ≤ 1000 → (∀ o, k (.bl (riseB ns)) [o]) → f [.lst (intsD ns)] k x
theorem riseG_ok {f0 f1 f2 f3 f4 f5 f6 f7 f8 f9 f10 f11 f12 f13 f14 : FnS} : RiseG (wpF [f0, f1, f2, f3, f4, f5, f6, f7, f8, f9, f10, f11, f12, f13, f14] gloD 1 2 B15) := by
  intro ns k x hl hk
  refine ⟨⟨rfl, rfl⟩, ?_⟩
  conv => whnf
  (try dsimp only [putOuts, wipeD, List.set_cons_zero, List.set_cons_succ, List.cons_append, List.nil_append, List.replicate_succ, List.replicate_zero])
  rw [show MP.cutD (intsD ns) (some 1) none = (intsD ns).drop 1 from cut_tl]
  refine ⟨⟨imAll_ints, imAll_dropI, rfl, by show (1 : Nat) ≠ 0; decide⟩, rfl, ?_⟩
  refine forC_map (fun d => some (.bl (ltP d))) ⟨trivial, trivial⟩ (zip_few hl) (fun d k2 hd hk2 => ?_) ?_
  · obtain ⟨a, b, rfl⟩ := zip_ints hd
    conv => whnf
    (try dsimp only [putOuts, wipeD, List.set_cons_zero, List.set_cons_succ, List.cons_append, List.nil_append, List.replicate_succ, List.replicate_zero])
    refine ⟨fun _ => ?_, fun h => nomatch h⟩
    conv => whnf
    (try dsimp only [putOuts, wipeD, List.set_cons_zero, List.set_cons_succ, List.cons_append, List.nil_append, List.replicate_succ, List.replicate_zero])
    exact hk2
  conv => whnf
  (try dsimp only [putOuts, wipeD, List.set_cons_zero, List.set_cons_succ, List.cons_append, List.nil_append, List.replicate_succ, List.replicate_zero])
  rw [bls_map]
  conv => whnf
  (try dsimp only [putOuts, wipeD, List.set_cons_zero, List.set_cons_succ, List.cons_append, List.nil_append, List.replicate_succ, List.replicate_zero])
  rw [all_map_id, all_zip]
  exact hk
theorem riseGL_ok {f0 f1 f2 f3 f4 f5 f6 f7 f8 f9 f10 f11 f12 f13 f14 : FnS} : RiseGL (wpF [f0, f1, f2, f3, f4, f5, f6, f7, f8, f9, f10, f11, f12, f13, f14] gloD 1 2 B15) := by
  intro ns k x hl hk
  refine ⟨⟨rfl, rfl⟩, ?_⟩
  conv => whnf
  (try dsimp only [putOuts, wipeD, List.set_cons_zero, List.set_cons_succ, List.cons_append, List.nil_append, List.replicate_succ, List.replicate_zero])
  rw [show MP.cutD (intsD ns) (some 1) none = (intsD ns).drop 1 from cut_tl]
  refine ⟨imAll_dropI, ?_⟩
  conv => whnf
  (try dsimp only [putOuts, wipeD, List.set_cons_zero, List.set_cons_succ, List.cons_append, List.nil_append, List.replicate_succ, List.replicate_zero])
  refine ⟨⟨imAll_ints, imAll_dropI, rfl, by show (2 : Nat) ≠ 0; decide⟩, rfl, ?_⟩
  refine forC_map (fun d => some (.bl (ltP d))) ⟨rfl, trivial⟩ (zip_few hl) (fun d k2 hd hk2 => ?_) ?_
  · obtain ⟨a, b, rfl⟩ := zip_ints hd
    conv => whnf
    (try dsimp only [putOuts, wipeD, List.set_cons_zero, List.set_cons_succ, List.cons_append, List.nil_append, List.replicate_succ, List.replicate_zero])
    refine ⟨fun _ => ?_, fun h => nomatch h⟩
    conv => whnf
    (try dsimp only [putOuts, wipeD, List.set_cons_zero, List.set_cons_succ, List.cons_append, List.nil_append, List.replicate_succ, List.replicate_zero])
    exact hk2
  conv => whnf
  (try dsimp only [putOuts, wipeD, List.set_cons_zero, List.set_cons_succ, List.cons_append, List.nil_append, List.replicate_succ, List.replicate_zero])
  rw [bls_map]
  conv => whnf
  (try dsimp only [putOuts, wipeD, List.set_cons_zero, List.set_cons_succ, List.cons_append, List.nil_append, List.replicate_succ, List.replicate_zero])
  rw [all_map_id, all_zip]
  exact hk _
theorem rowB2 {xs : List D} (h : rowB 2 (.tup xs) = true) : ∃ a b, xs = [a, b] := by
  have h : (xs.length : Int) = 2 := of_decide_eq_true h
  match xs, h with
  | [a, b], _ => exact ⟨a, b, rfl⟩
  | [], h => simp at h
  | [_], h => simp at h
  | _ :: _ :: _ :: _, h => simp at h; omega
theorem rowB2_no {xs : List D} (h : rowB 2 (.tup xs) = false) : ∀ a b, xs ≠ [a, b] := fun a b e => by
  subst e
  cases h
theorem termB_no {zs : List Int} {xs : List D} (h : rowB 2 (.tup xs) = false) : termB zs (.tup xs) = false := by
  unfold termB
  split
  · rename_i a b e
    exact absurd (D.tup.inj e) (rowB2_no h a b)
  · rfl
theorem probB_no {xs : List D} (h : rowB 2 (.tup xs) = false) : probB (.tup xs) = false := by
  unfold probB
  split
  · rename_i a b e
    exact absurd (D.tup.inj e) (rowB2_no h a _)
  · rfl
theorem not_t {b : Bool} (h : (!b) = true) : b = false := by cases b <;> first | rfl | cases h
theorem not_f {b : Bool} (h : (!b) = false) : b = true := by cases b <;> first | rfl | cases h
theorem marks_no {z : Int} {b : D} (h : areB 0 (z - 1) b = false) : marksB z b = false := by
  cases b with
  | tup ys =>
    have h : ys.all (betB 0 (z - 1)) = false := h
    show (ys.all (betB 0 (z - 1)) && _) = false
    rw [h]; rfl
  | _ => rfl
def TermG (f : FnS) : Prop := ∀ (n : Nat) (zs : List Int) (d : D) (k x : OutK), zs.length ≤ 100 → pv n d → k (.bl (termB zs d)) [.bot, .bot] → f [tupI zs, d] k x
theorem termG_ok {f0 f1 f2 f3 f4 f5 f6 f7 f8 f9 f10 f11 f12 f13 f14 f15 f16 : FnS} (h11 : RowG f11) (h13 : BetG f13) (h15 : RiseG f15) (h16 : AreG f16) : TermG (wpF [f0, f1, f2, f3, f4, f5, f6, f7, f8, f9, f10, f11, f12, f13, f14, f15, f16] gloD 2 1 B17) := by
  intro n zs d k x hz hv hk
  rcases pv_cases hv with ⟨n, xs, rfl, rfl, hl, hx⟩ | hn
  · refine ⟨⟨rfl, rfl⟩, ?_⟩
    conv => whnf
    (try dsimp only [putOuts, wipeD, List.set_cons_zero, List.set_cons_succ, List.cons_append, List.nil_append, List.replicate_succ, List.replicate_zero])
    refine h11 _ _ 2 _ _ hv ?_
    refine ⟨fun h => ?_, fun h => ?_⟩
    · have hk : k (.bl (termB zs (.tup xs))) [.bot, .bot] := hk
      rw [termB_no (not_t h)] at hk
      conv => whnf
      (try dsimp only [putOuts, wipeD, List.set_cons_zero, List.set_cons_succ, List.cons_append, List.nil_append, List.replicate_succ, List.replicate_zero])
      refine ⟨fun _ => ?_, fun h => nomatch h⟩
      exact hk
    obtain ⟨a, b, rfl⟩ := rowB2 (not_f h)
    have ha := hx a List.mem_cons_self
    have hb := hx b (List.mem_cons_of_mem _ List.mem_cons_self)
    have ia := pv_im ha
    have ib := pv_im hb
    have elen : ((intsD zs).length : Int) = zs.length := by rw [intsD, List.length_map]
    conv => whnf
    (try dsimp only [putOuts, wipeD, List.set_cons_zero, List.set_cons_succ, List.cons_append, List.nil_append, List.replicate_succ, List.replicate_zero])
    rw [ia]
    conv => whnf
    (try dsimp only [putOuts, wipeD, List.set_cons_zero, List.set_cons_succ, List.cons_append, List.nil_append, List.replicate_succ, List.replicate_zero])
    refine h13 _ a 0 _ _ _ ha ?_
    rw [elen]
    have hk : k (.bl (betB 0 (zs.length - 1) a && marksB (zs.getD (iv a).toNat 0) b)) [.bot, .bot] := hk
    refine ⟨fun h => ?_, fun h => ?_⟩
    · rw [not_t h] at hk
      exact hk
    rw [not_f h] at hk
    obtain ⟨i, rfl, hi0, hi1⟩ := betB_int (not_f h)
    obtain ⟨z, hz1⟩ : ∃ z, zs[i.toNat]? = some z := ⟨_, List.getElem?_eq_getElem (by omega)⟩
    have hk : k (.bl (marksB (zs.getD i.toNat 0) b)) [.bot, .bot] := hk
    rw [show zs.getD i.toNat 0 = z by rw [List.getD_eq_getElem?_getD, hz1]; rfl] at hk
    have hix : ixOf (tupI zs) (.int i) = some i.toNat := by
      show ixN (intsD zs).length i = _
      unfold ixN
      rw [if_pos hi0, if_pos (by rw [intsD, List.length_map]; omega)]
    have hkid : (tupI zs).kids[i.toNat]? = some (.int z) := by
      show (intsD zs)[i.toNat]? = _
      rw [intsD, List.getElem?_map, hz1]; rfl
    conv => whnf
    (try dsimp only [putOuts, wipeD, List.set_cons_zero, List.set_cons_succ, List.cons_append, List.nil_append, List.replicate_succ, List.replicate_zero])
    rw [hix]
    refine itemS_im (e := .int z) hkid rfl ?_
    conv => whnf
    (try dsimp only [putOuts, wipeD, List.set_cons_zero, List.set_cons_succ, List.cons_append, List.nil_append, List.replicate_succ, List.replicate_zero])
    rw [ib]
    conv => whnf
    (try dsimp only [putOuts, wipeD, List.set_cons_zero, List.set_cons_succ, List.cons_append, List.nil_append, List.replicate_succ, List.replicate_zero])
    refine h16 _ b 0 _ _ _ hb ?_
    refine ⟨fun h => ?_, fun h => ?_⟩
    · rcases pv_cases hb with ⟨n, ys, rfl, rfl, hyl, hy⟩ | hn
      · have h : ys.all (betB 0 (z - 1)) = true := h
        have ey := all_ints (fun d h => let ⟨i, e, _⟩ := betB_int h; ⟨i, e⟩) h
        have hk : k (.bl (ys.all (betB 0 (z - 1)) && (riseB (ys.map iv) && (decide (1 ≤ (ys.length : Int)) && decide ((ys.length : Int) < z))))) [.bot, .bot] := hk
        rw [h, Bool.true_and] at hk
        generalize ys.map iv = ns at ey hk
        subst ey
        have ln : (intsD ns).length = ns.length := by rw [intsD, List.length_map]
        conv => whnf
        (try dsimp only [putOuts, wipeD, List.set_cons_zero, List.set_cons_succ, List.cons_append, List.nil_append, List.replicate_succ, List.replicate_zero])
        refine h15 ns _ _ (by omega) ?_
        refine ⟨fun h => ?_, fun h => ?_⟩
        · rw [h, Bool.true_and] at hk
          conv => whnf
          (try dsimp only [putOuts, wipeD, List.set_cons_zero, List.set_cons_succ, List.cons_append, List.nil_append, List.replicate_succ, List.replicate_zero])
          refine ⟨fun h => ?_, fun h => ?_⟩
          · rw [h, Bool.true_and] at hk
            conv => whnf
            (try dsimp only [putOuts, wipeD, List.set_cons_zero, List.set_cons_succ, List.cons_append, List.nil_append, List.replicate_succ, List.replicate_zero])
            exact hk
          · rw [h] at hk
            exact hk
        · rw [h] at hk
          exact hk
      · cases hn <;> cases h
    · have this := marks_no h
      rw [this] at hk
      exact hk
  · cases hn with
    | _ =>
      refine ⟨⟨rfl, rfl⟩, ?_⟩
      conv => whnf
      (try dsimp only [putOuts, wipeD, List.set_cons_zero, List.set_cons_succ, List.cons_append, List.nil_append, List.replicate_succ, List.replicate_zero])
      refine h11 _ _ 2 _ _ hv ?_
      refine ⟨fun h => ?_, fun h => nomatch h⟩
      conv => whnf
      (try dsimp only [putOuts, wipeD, List.set_cons_zero, List.set_cons_succ, List.cons_append, List.nil_append, List.replicate_succ, List.replicate_zero])
      refine ⟨fun _ => ?_, fun h => nomatch h⟩
      exact hk
def BarG (f : FnS) : Prop := ∀ (n : Nat) (zs : List Int) (d : D) (k x : OutK), zs.length ≤ 100 → pv n d → k (.bl (barB zs d)) [.bot, .bot] → f [tupI zs, d] k x
theorem barG_ok {f0 f1 f2 f3 f4 f5 f6 f7 f8 f9 f10 f11 f12 f13 f14 f15 f16 f17 : FnS} (h15 : RiseGL f15) (h17 : TermG f17) : BarG (wpF [f0, f1, f2, f3, f4, f5, f6, f7, f8, f9, f10, f11, f12, f13, f14, f15, f16, f17] gloD 2 1 B18) := by
  intro n zs d k x hz hv hk
  have eb : big = 16777216 := rfl
  rcases pv_cases hv with ⟨n, ts, rfl, rfl, hl, hx⟩ | hn
  · refine ⟨⟨rfl, rfl⟩, ?_⟩
    have hk : k (.bl (ts.all (termB zs) && riseB (ts.map firstI))) [.bot, .bot] := hk
    conv => whnf
    (try dsimp only [putOuts, wipeD, List.set_cons_zero, List.set_cons_succ, List.cons_append, List.nil_append, List.replicate_succ, List.replicate_zero])
    refine ⟨(fun h => nomatch h), fun _ => ?_⟩
    conv => whnf
    (try dsimp only [putOuts, wipeD, List.set_cons_zero, List.set_cons_succ, List.cons_append, List.nil_append, List.replicate_succ, List.replicate_zero])
    refine ⟨rfl, ?_⟩
    refine forC_map (fun d => some (.bl (termB zs d))) trivial (by omega) (fun d k2 hd hk2 => ?_) ?_
    · have hp := hx d hd
      have hi := pv_im hp
      conv => whnf
      (try dsimp only [putOuts, wipeD, List.set_cons_zero, List.set_cons_succ, List.cons_append, List.nil_append, List.replicate_succ, List.replicate_zero])
      rw [hi]
      conv => whnf
      (try dsimp only [putOuts, wipeD, List.set_cons_zero, List.set_cons_succ, List.cons_append, List.nil_append, List.replicate_succ, List.replicate_zero])
      refine ⟨fun _ => ?_, fun h => nomatch h⟩
      conv => whnf
      (try dsimp only [putOuts, wipeD, List.set_cons_zero, List.set_cons_succ, List.cons_append, List.nil_append, List.replicate_succ, List.replicate_zero])
      rw [hi]
      conv => whnf
      (try dsimp only [putOuts, wipeD, List.set_cons_zero, List.set_cons_succ, List.cons_append, List.nil_append, List.replicate_succ, List.replicate_zero])
      refine h17 n zs d _ _ hz hp ?_
      exact hk2
    conv => whnf
    (try dsimp only [putOuts, wipeD, List.set_cons_zero, List.set_cons_succ, List.cons_append, List.nil_append, List.replicate_succ, List.replicate_zero])
    rw [bls_map]
    conv => whnf
    (try dsimp only [putOuts, wipeD, List.set_cons_zero, List.set_cons_succ, List.cons_append, List.nil_append, List.replicate_succ, List.replicate_zero])
    rw [all_map_id]
    refine ⟨fun h => ?_, fun h => ?_⟩
    · rw [not_t h] at hk
      exact hk
    have h := not_f h
    rw [h, Bool.true_and] at hk
    conv => whnf
    (try dsimp only [putOuts, wipeD, List.set_cons_zero, List.set_cons_succ, List.cons_append, List.nil_append, List.replicate_succ, List.replicate_zero])
    refine ⟨rfl, ?_⟩
    refine forC_map (fun d => some (.int (firstI d))) trivial (by omega) (fun d k2 hd hk2 => ?_) ?_
    · have ht := List.all_eq_true.mp h d hd
      obtain ⟨i, b, rfl⟩ : ∃ i b, d = .tup [.int i, b] := by
        unfold termB at ht
        split at ht
        · rename_i a b
          rw [Bool.and_eq_true] at ht
          obtain ⟨i, rfl, _⟩ := betB_int ht.1
          exact ⟨i, b, rfl⟩
        · cases ht
      conv => whnf
      (try dsimp only [putOuts, wipeD, List.set_cons_zero, List.set_cons_succ, List.cons_append, List.nil_append, List.replicate_succ, List.replicate_zero])
      refine ⟨fun _ => ?_, fun h => nomatch h⟩
      exact hk2
    have e : (ts.filterMap fun d => some (D.int (firstI d))) = intsD (ts.map firstI) := by
      rw [intsD, List.map_map]
      exact List.filterMap_eq_map (f := fun d => D.int (firstI d)) ▸ rfl
    rw [e]
    conv => whnf
    (try dsimp only [putOuts, wipeD, List.set_cons_zero, List.set_cons_succ, List.cons_append, List.nil_append, List.replicate_succ, List.replicate_zero])
    refine h15 _ _ _ (by rw [List.length_map]; omega) fun o => ?_
    exact hk
  · cases hn with
    | _ =>
      refine ⟨⟨rfl, rfl⟩, ?_⟩
      conv => whnf
      (try dsimp only [putOuts, wipeD, List.set_cons_zero, List.set_cons_succ, List.cons_append, List.nil_append, List.replicate_succ, List.replicate_zero])
      refine ⟨fun _ => ?_, fun h => nomatch h⟩
      conv => whnf
      (try dsimp only [putOuts, wipeD, List.set_cons_zero, List.set_cons_succ, List.cons_append, List.nil_append, List.replicate_succ, List.replicate_zero])
      refine ⟨fun _ => ?_, fun h => nomatch h⟩
      exact hk
end K36

set_option Elab.async false
set_option linter.all false
set_option maxRecDepth 100000
set_option maxHeartbeats 1000000
namespace K36
open PySem PySem.Spec PyProof.Rows L2 MP
theorem iv_ints {zs : List Int} : (intsD zs).map iv = zs := by
  rw [intsD, List.map_map]
  exact List.map_id zs
theorem kid_tupI {zs : List Int} : kidI (tupI zs) = zs := iv_ints
theorem sizes_tup {d : D} (h : sizesB d = true) : d = tupI (kidI d) ∧ ∀ z ∈ kidI d, 1 ≤ z := by
  cases d with
  | tup xs =>
    have h : xs.all szB1 = true := h
    have e := all_ints (fun d h => let ⟨i, e, _⟩ := szB1_int h; ⟨i, e⟩) h
    refine ⟨congrArg D.tup e, fun z hz => ?_⟩
    obtain ⟨d, hd, rfl⟩ := List.mem_map.mp (show z ∈ xs.map iv from hz)
    obtain ⟨i, rfl, hi⟩ := szB1_int (List.all_eq_true.mp h d hd)
    exact hi
  | _ => cases h
def ProbG (f : FnS) : Prop := ∀ (n : Nat) (d : D) (k x : OutK), pv n d → k (.bl (probB d)) [.bot] → f [d] k x
theorem probG_ok {f0 f1 f2 f3 f4 f5 f6 f7 f8 f9 f10 f11 f12 f13 f14 f15 f16 f17 f18 : FnS} (h11 : RowG f11) (h14 : SzG f14) (h18 : BarG f18) : ProbG (wpF [f0, f1, f2, f3, f4, f5, f6, f7, f8, f9, f10, f11, f12, f13, f14, f15, f16, f17, f18] gloD 1 1 B19) := by
  intro n d k x hv hk
  have eb : big = 16777216 := rfl
  rcases pv_cases hv with ⟨n, xs, rfl, rfl, hl, hx⟩ | hn
  · refine ⟨⟨rfl, rfl⟩, ?_⟩
    conv => whnf
    (try dsimp only [putOuts, wipeD, List.set_cons_zero, List.set_cons_succ, List.cons_append, List.nil_append, List.replicate_succ, List.replicate_zero])
    refine h11 _ _ 2 _ _ hv ?_
    refine ⟨fun h => ?_, fun h => ?_⟩
    · have hk : k (.bl (probB (.tup xs))) [.bot] := hk
      rw [probB_no (not_t h)] at hk
      conv => whnf
      (try dsimp only [putOuts, wipeD, List.set_cons_zero, List.set_cons_succ, List.cons_append, List.nil_append, List.replicate_succ, List.replicate_zero])
      refine ⟨fun _ => ?_, fun h => nomatch h⟩
      exact hk
    obtain ⟨a, b, rfl⟩ := rowB2 (not_f h)
    have ha := hx a List.mem_cons_self
    have hb := hx b (List.mem_cons_of_mem _ List.mem_cons_self)
    have ia := pv_im ha
    conv => whnf
    (try dsimp only [putOuts, wipeD, List.set_cons_zero, List.set_cons_succ, List.cons_append, List.nil_append, List.replicate_succ, List.replicate_zero])
    rw [ia]
    conv => whnf
    (try dsimp only [putOuts, wipeD, List.set_cons_zero, List.set_cons_succ, List.cons_append, List.nil_append, List.replicate_succ, List.replicate_zero])
    refine h14 _ a _ _ ha ?_
    refine ⟨fun h => ?_, fun h => ?_⟩
    · have : probB (.tup [a, b]) = false := by
        have hs0 := not_t h
        cases b <;> first | rfl | skip
        show (sizesB a && _) = false
        rw [hs0]; rfl
      have hk : k (.bl (probB (.tup [a, b]))) [.bot] := hk
      rw [this] at hk
      conv => whnf
      (try dsimp only [putOuts, wipeD, List.set_cons_zero, List.set_cons_succ, List.cons_append, List.nil_append, List.replicate_succ, List.replicate_zero])
      refine ⟨fun _ => ?_, fun h => nomatch h⟩
      exact hk
    have hs1 := not_f h
    obtain ⟨ea, hz⟩ := sizes_tup hs1
    have hzl : (kidI a).length ≤ 41 := by
      rcases pv_cases ha with ⟨_, ys, rfl, rfl, hyl, _⟩ | hn
      · show (ys.map iv).length ≤ 41
        rw [List.length_map]; exact hyl
      · cases hn <;> cases hs1
    generalize kidI a = zs at ea hz hzl
    subst ea
    rcases pv_cases hb with ⟨n, bs, rfl, rfl, hbl, hbx⟩ | hn
    · have hk : k (.bl (sizesB (tupI zs) && bs.all (barB (kidI (tupI zs))))) [.bot] := hk
      rw [hs1, Bool.true_and, kid_tupI] at hk
      conv => whnf
      (try dsimp only [putOuts, wipeD, List.set_cons_zero, List.set_cons_succ, List.cons_append, List.nil_append, List.replicate_succ, List.replicate_zero])
      refine ⟨(fun h => nomatch h), fun _ => ?_⟩
      conv => whnf
      (try dsimp only [putOuts, wipeD, List.set_cons_zero, List.set_cons_succ, List.cons_append, List.nil_append, List.replicate_succ, List.replicate_zero])
      refine ⟨rfl, ?_⟩
      refine forC_map (fun d => some (.bl (barB zs d))) trivial (by omega) (fun d k2 hd hk2 => ?_) ?_
      · have hp := hbx d hd
        have hi := pv_im hp
        conv => whnf
        (try dsimp only [putOuts, wipeD, List.set_cons_zero, List.set_cons_succ, List.cons_append, List.nil_append, List.replicate_succ, List.replicate_zero])
        rw [hi]
        conv => whnf
        (try dsimp only [putOuts, wipeD, List.set_cons_zero, List.set_cons_succ, List.cons_append, List.nil_append, List.replicate_succ, List.replicate_zero])
        refine ⟨fun _ => ?_, fun h => nomatch h⟩
        conv => whnf
        (try dsimp only [putOuts, wipeD, List.set_cons_zero, List.set_cons_succ, List.cons_append, List.nil_append, List.replicate_succ, List.replicate_zero])
        rw [hi]
        conv => whnf
        (try dsimp only [putOuts, wipeD, List.set_cons_zero, List.set_cons_succ, List.cons_append, List.nil_append, List.replicate_succ, List.replicate_zero])
        refine h18 n zs d _ _ (by omega) hp ?_
        exact hk2
      conv => whnf
      (try dsimp only [putOuts, wipeD, List.set_cons_zero, List.set_cons_succ, List.cons_append, List.nil_append, List.replicate_succ, List.replicate_zero])
      rw [bls_map]
      conv => whnf
      (try dsimp only [putOuts, wipeD, List.set_cons_zero, List.set_cons_succ, List.cons_append, List.nil_append, List.replicate_succ, List.replicate_zero])
      rw [all_map_id]
      exact hk
    · cases hn with
      | _ =>
        conv => whnf
        (try dsimp only [putOuts, wipeD, List.set_cons_zero, List.set_cons_succ, List.cons_append, List.nil_append, List.replicate_succ, List.replicate_zero])
        refine ⟨fun _ => ?_, fun h => nomatch h⟩
        exact hk
  · cases hn with
    | _ =>
      refine ⟨⟨rfl, rfl⟩, ?_⟩
      conv => whnf
      (try dsimp only [putOuts, wipeD, List.set_cons_zero, List.set_cons_succ, List.cons_append, List.nil_append, List.replicate_succ, List.replicate_zero])
      refine h11 _ _ 2 _ _ hv ?_
      refine ⟨fun h => ?_, fun h => nomatch h⟩
      conv => whnf
      (try dsimp only [putOuts, wipeD, List.set_cons_zero, List.set_cons_succ, List.cons_append, List.nil_append, List.replicate_succ, List.replicate_zero])
      refine ⟨fun _ => ?_, fun h => nomatch h⟩
      exact hk
theorem isProb_ok {f0 f1 f2 f3 f4 f5 f6 f7 f8 f9 f10 f11 f12 f13 f14 f15 f16 f17 f18 f19 : FnS} (h : ProbG f19) : ProbG (wpF [f0, f1, f2, f3, f4, f5, f6, f7, f8, f9, f10, f11, f12, f13, f14, f15, f16, f17, f18, f19] gloD 1 0 B20) := by
  intro n d k x hv hk
  rcases pv_cases hv with ⟨n, xs, rfl, rfl, hl, hx⟩ | hn
  · refine ⟨⟨rfl, rfl⟩, ?_⟩
    conv => whnf
    (try dsimp only [putOuts, wipeD, List.set_cons_zero, List.set_cons_succ, List.cons_append, List.nil_append, List.replicate_succ, List.replicate_zero])
    exact h _ _ _ _ hv hk
  · cases hn with
    | _ =>
      refine ⟨⟨rfl, rfl⟩, ?_⟩
      conv => whnf
      (try dsimp only [putOuts, wipeD, List.set_cons_zero, List.set_cons_succ, List.cons_append, List.nil_append, List.replicate_succ, List.replicate_zero])
      exact h _ _ _ _ hv hk
/-- right ones are taken -/
theorem riseB_of {ns : List Int} (h : ns.Pairwise (· < ·)) : riseB ns = true := by
  unfold riseB
  rw [List.all_eq_true]
  intro p hp
  refine decide_eq_true ?_
  obtain ⟨j, hj⟩ := List.getElem?_of_mem hp
  obtain ⟨h1, h2⟩ := List.getElem?_zip_eq_some.mp hj
  rw [List.getElem?_drop] at h2
  obtain ⟨i1, e1⟩ := List.getElem?_eq_some_iff.mp h1
  obtain ⟨i2, e2⟩ := List.getElem?_eq_some_iff.mp h2
  rw [← e1, ← e2]
  exact List.pairwise_iff_getElem.mp h j (1 + j) i1 i2 (by omega)
theorem of_riseB : ∀ {ns : List Int}, riseB ns = true → ns.Pairwise (· < ·)
  | [], _ => .nil
  | [a], _ => List.pairwise_singleton _ _
  | a :: b :: ns, h => by
    have h : (decide (a < b) && riseB (b :: ns)) = true := h
    rw [Bool.and_eq_true] at h
    have ih := of_riseB h.2
    refine .cons (fun y hy => ?_) ih
    have hab : a < b := of_decide_eq_true h.1
    rcases List.mem_cons.mp hy with rfl | hy
    · exact hab
    · have := (List.pairwise_cons.mp ih).1 y hy
      omega
theorem ints_bet {ns : List Int} {l m : Int} (h : ∀ n ∈ ns, l ≤ n ∧ n ≤ m) : (intsD ns).all (betB l m) = true := by
  rw [List.all_eq_true]
  intro d hd
  obtain ⟨i, hi, rfl⟩ := List.mem_map.mp hd
  show (decide _ && decide _) = true
  rw [decide_eq_true (h i hi).1, decide_eq_true (h i hi).2]; rfl
theorem marks_ok {z : Int} {ns : List Int} (h : okMarks z ns) : marksB z (tupI ns) = true := by
  obtain ⟨h1, h2, h3, h4⟩ := h
  show ((intsD ns).all (betB 0 (z - 1)) && (riseB ((intsD ns).map iv) && (decide (1 ≤ ((intsD ns).length : Int)) && decide (((intsD ns).length : Int) < z)))) = true
  rw [ints_bet fun n hn => ⟨(h2 n hn).1, by have := (h2 n hn).2; omega⟩, iv_ints, riseB_of h1, intsD, List.length_map, decide_eq_true (by omega : 1 ≤ (ns.length : Int)), decide_eq_true h4]; rfl
theorem bar_right {zs : List Int} {b : List (Int × List Int)} (h : okBar zs b) : barB zs (barD b) = true := by
  obtain ⟨h1, h2⟩ := h
  show ((b.map fun q => termD q.1 q.2).all (termB zs) && riseB ((b.map fun q => termD q.1 q.2).map firstI)) = true
  rw [List.map_map, show (firstI ∘ fun (q : Int × List Int) => termD q.1 q.2) = fun q => q.1 from rfl, riseB_of h1, Bool.and_true, List.all_eq_true]
  intro d hd
  obtain ⟨q, hq, rfl⟩ := List.mem_map.mp hd
  obtain ⟨q1, q2, z, hz, hm⟩ := h2 q hq
  show ((decide (0 ≤ q.1) && decide (q.1 ≤ (zs.length : Int) - 1)) && marksB (zs.getD q.1.toNat 0) (tupI q.2)) = true
  rw [show zs.getD q.1.toNat 0 = z by rw [List.getD_eq_getElem?_getD, hz]; rfl, marks_ok hm, decide_eq_true q1, decide_eq_true (by omega : q.1 ≤ (zs.length : Int) - 1)]; rfl
theorem sizes_right {zs : List Int} (h : ∀ z ∈ zs, okSize z) : sizesB (tupI zs) = true := by
  show (intsD zs).all szB1 = true
  rw [List.all_eq_true]
  intro d hd
  obtain ⟨i, hi, rfl⟩ := List.mem_map.mp hd
  exact decide_eq_true (h i hi).1
theorem prob_right {zs : List Int} {bs : List (List (Int × List Int))} (h : okProb zs bs) : probB (problemD zs bs) = true := by
  obtain ⟨h1, h2, h3, h4, h5⟩ := h
  show (sizesB (tupI zs) && (bs.map barD).all (barB (kidI (tupI zs)))) = true
  rw [sizes_right h2, kid_tupI, Bool.true_and, List.all_eq_true]
  intro d hd
  obtain ⟨b, hb, rfl⟩ := List.mem_map.mp hd
  exact bar_right (h5 b hb).1
theorem tv_tupI {n : Nat} {ns : List Int} (hl : ns.length ≤ 40) (h : ∀ x ∈ ns, x.natAbs < 10 ^ 41) : tv (n + 1) (tupI ns) := by
  refine ⟨by rw [intsD, List.length_map]; exact hl, fun x hx => ?_⟩
  obtain ⟨i, hi, rfl⟩ := List.mem_map.mp hx
  cases n <;> exact h i hi
theorem small41 {i : Int} (h : i.natAbs < 100) : i.natAbs < 10 ^ 41 := Nat.lt_of_lt_of_le h (Nat.le_of_ble_eq_true rfl)
theorem tv_bar {zs : List Int} {b : List (Int × List Int)} (hz : zs.length ≤ 8) (hzs : ∀ z ∈ zs, okSize z) (h : okBar zs b) (hl : b.length ≤ 8) : tv 3 (barD b) := by
  refine ⟨by rw [List.length_map]; omega, fun x hx => ?_⟩
  obtain ⟨q, hq, rfl⟩ := List.mem_map.mp hx
  obtain ⟨q1, q2, z, e, m1, m2, m3, m4⟩ := h.2 q hq
  have hz1 := hzs z (List.mem_of_getElem? e)
  have hz2 := hz1.2
  refine ⟨by show 2 ≤ 40; decide, fun y hy => ?_⟩
  simp only [List.mem_cons, List.not_mem_nil, or_false] at hy
  rcases hy with rfl | rfl
  · exact small41 (by omega)
  · exact tv_tupI (by omega) fun w hw => small41 (by have := m2 w hw; omega)
theorem tv_prob {zs : List Int} {bs : List (List (Int × List Int))} (h : okProb zs bs) (hl : bs.length ≤ 40) : tv 5 (problemD zs bs) := by
  obtain ⟨h1, h2, h3, h4, h5⟩ := h
  refine ⟨by show 2 ≤ 40; decide, fun y hy => ?_⟩
  simp only [List.mem_cons, List.not_mem_nil, or_false] at hy
  rcases hy with rfl | rfl
  · exact tv_tupI (by omega) fun w hw => small41 (by have := h2 w hw; have := this.1; have := (h2 w hw).2; omega)
  · refine ⟨by rw [List.length_map]; exact hl, fun x hx => ?_⟩
    obtain ⟨b, hb, rfl⟩ := List.mem_map.mp hx
    exact tv_bar h1 h2 (h5 b hb).1 (h5 b hb).2
def NeedG (f : FnS) : Prop := ∀ (zs : List Int) (bs : List (List (Int × List Int))) (k x : OutK), okProb zs bs → bs.length ≤ 40 → k .non [.bot] → f [problemD zs bs] k x
theorem needG_ok {f0 f1 f2 f3 f4 f5 f6 f7 f8 f9 f10 f11 f12 f13 f14 f15 f16 f17 f18 f19 f20 f21 : FnS} (h : ProbG f19) : NeedG (wpF [f0, f1, f2, f3, f4, f5, f6, f7, f8, f9, f10, f11, f12, f13, f14, f15, f16, f17, f18, f19, f20, f21] gloD 1 0 B22) := by
  intro zs bs k x hp hl hk
  refine ⟨⟨rfl, rfl⟩, ?_⟩
  conv => whnf
  (try dsimp only [putOuts, wipeD, List.set_cons_zero, List.set_cons_succ, List.cons_append, List.nil_append, List.replicate_succ, List.replicate_zero])
  refine h _ _ _ _ (tv_pv (tv_prob hp hl)) ?_
  rw [prob_right hp]
  conv => whnf
  (try dsimp only [putOuts, wipeD, List.set_cons_zero, List.set_cons_succ, List.cons_append, List.nil_append, List.replicate_succ, List.replicate_zero])
  refine ⟨(fun h => nomatch h), fun _ => ?_⟩
  exact hk
def IsBarG (f : FnS) : Prop := ∀ (n : Nat) (zs : List Int) (d : D) (k x : OutK), zs.length ≤ 8 → (∀ z ∈ zs, okSize z) → pv n d → k (.bl (barB zs d)) [.bot, .bot] → f [tupI zs, d] k x
theorem isBarG_ok {f0 f1 f2 f3 f4 f5 f6 f7 f8 f9 f10 f11 f12 f13 f14 f15 f16 f17 f18 f19 f20 : FnS} (h14 : SzG f14) (h18 : BarG f18) : IsBarG (wpF [f0, f1, f2, f3, f4, f5, f6, f7, f8, f9, f10, f11, f12, f13, f14, f15, f16, f17, f18, f19, f20] gloD 2 0 B21) := by
  intro n zs d k x hz hzs hv hk
  have hpz : pv 1 (tupI zs) := tv_pv (tv_tupI (n := 0) (by omega) fun w hw => small41 (by have := (hzs w hw).1; have := (hzs w hw).2; omega))
  have step : ∀ (d : D), pv n d → d.im = true → k (.bl (barB zs d)) [.bot, .bot] → (wpF [f0, f1, f2, f3, f4, f5, f6, f7, f8, f9, f10, f11, f12, f13, f14, f15, f16, f17, f18, f19, f20] gloD 2 0 B21) [tupI zs, d] k x := by
    intro d hv hi hk
    refine ⟨⟨rfl, rfl⟩, ?_⟩
    conv => whnf
    (try dsimp only [putOuts, wipeD, List.set_cons_zero, List.set_cons_succ, List.cons_append, List.nil_append, List.replicate_succ, List.replicate_zero])
    refine h14 _ _ _ _ hpz ?_
    rw [sizes_right hzs]
    conv => whnf
    (try dsimp only [putOuts, wipeD, List.set_cons_zero, List.set_cons_succ, List.cons_append, List.nil_append, List.replicate_succ, List.replicate_zero])
    refine ⟨(fun h => nomatch h), fun _ => ?_⟩
    conv => whnf
    (try dsimp only [putOuts, wipeD, List.set_cons_zero, List.set_cons_succ, List.cons_append, List.nil_append, List.replicate_succ, List.replicate_zero])
    rw [hi]
    conv => whnf
    (try dsimp only [putOuts, wipeD, List.set_cons_zero, List.set_cons_succ, List.cons_append, List.nil_append, List.replicate_succ, List.replicate_zero])
    refine h18 n zs d _ _ (by omega) hv ?_
    show k (.bl (barB zs d)) (outsD [tupI zs, d] [tupI zs, d])
    rw [show outsD [tupI zs, d] [tupI zs, d] = [.bot, .bot] by show [D.bot, _] = _; rw [hi]]
    exact hk
  exact step d hv (pv_im hv) hk
theorem zipD_ints {xs : List D} {zs : List Int} : zipD xs (intsD zs) = (xs.zip zs).map fun p => D.pr [p.1, .int p.2] := by
  induction xs generalizing zs with
  | nil => cases zs <;> rfl
  | cons x xs ih =>
    cases zs with
    | nil => rfl
    | cons z zs => show D.pr [x, .int z] :: zipD xs (intsD zs) = _; rw [ih]; rfl
def chP : D → Bool
  | .pr [x, .int z] => betB 0 (z - 1) x
  | _ => false
theorem all_ch {xs : List D} {zs : List Int} : (zipD xs (intsD zs)).all chP = (xs.zip zs).all fun p => betB 0 (p.2 - 1) p.1 := by
  rw [zipD_ints, List.all_map]; rfl
def ChG (f : FnS) : Prop := ∀ (n : Nat) (zs : List Int) (d : D) (k x : OutK), zs.length ≤ 100 → pv n d → k (.bl (choiceB zs d)) [.bot, .bot] → f [tupI zs, d] k x
theorem chG_ok {f0 f1 f2 f3 f4 f5 f6 f7 f8 f9 f10 f11 f12 f13 f14 f15 f16 f17 f18 f19 f20 f21 f22 : FnS} (h11 : RowG f11) (h13 : BetG f13) : ChG (wpF [f0, f1, f2, f3, f4, f5, f6, f7, f8, f9, f10, f11, f12, f13, f14, f15, f16, f17, f18, f19, f20, f21, f22] gloD 2 2 B23) := by
  intro n zs d k x hz hv hk
  have eb : big = 16777216 := rfl
  have el : ((intsD zs).length : Int) = zs.length := by rw [intsD, List.length_map]
  rcases pv_cases hv with ⟨n, xs, rfl, rfl, hl, hx⟩ | hn
  · have hk : k (.bl (decide ((xs.length : Int) = (zs.length : Int)) && (xs.zip zs).all fun p => betB 0 (p.2 - 1) p.1)) [.bot, .bot] := hk
    refine ⟨⟨rfl, rfl⟩, ?_⟩
    conv => whnf
    (try dsimp only [putOuts, wipeD, List.set_cons_zero, List.set_cons_succ, List.cons_append, List.nil_append, List.replicate_succ, List.replicate_zero])
    refine h11 _ _ _ _ _ hv ?_
    rw [el]
    refine ⟨fun h => ?_, fun h => ?_⟩
    · have h : decide ((xs.length : Int) = (zs.length : Int)) = true := h
      rw [h, Bool.true_and] at hk
      conv => whnf
      (try dsimp only [putOuts, wipeD, List.set_cons_zero, List.set_cons_succ, List.cons_append, List.nil_append, List.replicate_succ, List.replicate_zero])
      refine ⟨⟨pv_all_im hx, imAll_ints, rfl, by show (1 : Nat) ≠ 0; decide⟩, rfl, ?_⟩
      refine forC_map (fun d => some (.bl (chP d))) ⟨trivial, trivial⟩ (by rw [zipD_len]; omega) (fun d k2 hd hk2 => ?_) ?_
      · rw [zipD_ints] at hd
        obtain ⟨⟨y, z⟩, hp, rfl⟩ := List.mem_map.mp hd
        have hy := hx y (List.of_mem_zip hp).1
        have hi := pv_im hy
        dsimp only at hk2 ⊢
        conv => whnf
        (try dsimp only [putOuts, wipeD, List.set_cons_zero, List.set_cons_succ, List.cons_append, List.nil_append, List.replicate_succ, List.replicate_zero])
        rw [hi]
        conv => whnf
        (try dsimp only [putOuts, wipeD, List.set_cons_zero, List.set_cons_succ, List.cons_append, List.nil_append, List.replicate_succ, List.replicate_zero])
        refine ⟨fun _ => ?_, fun h => nomatch h⟩
        conv => whnf
        (try dsimp only [putOuts, wipeD, List.set_cons_zero, List.set_cons_succ, List.cons_append, List.nil_append, List.replicate_succ, List.replicate_zero])
        rw [hi]
        conv => whnf
        (try dsimp only [putOuts, wipeD, List.set_cons_zero, List.set_cons_succ, List.cons_append, List.nil_append, List.replicate_succ, List.replicate_zero])
        refine h13 n y 0 (z - 1) _ _ hy ?_
        exact hk2
      conv => whnf
      (try dsimp only [putOuts, wipeD, List.set_cons_zero, List.set_cons_succ, List.cons_append, List.nil_append, List.replicate_succ, List.replicate_zero])
      rw [bls_map]
      conv => whnf
      (try dsimp only [putOuts, wipeD, List.set_cons_zero, List.set_cons_succ, List.cons_append, List.nil_append, List.replicate_succ, List.replicate_zero])
      rw [all_map_id, all_ch]
      exact hk
    · have h : decide ((xs.length : Int) = (zs.length : Int)) = false := h
      rw [h] at hk
      exact hk
  · cases hn with
    | _ =>
      refine ⟨⟨rfl, rfl⟩, ?_⟩
      conv => whnf
      (try dsimp only [putOuts, wipeD, List.set_cons_zero, List.set_cons_succ, List.cons_append, List.nil_append, List.replicate_succ, List.replicate_zero])
      refine h11 _ _ _ _ _ hv ?_
      refine ⟨(fun h => nomatch h), fun _ => ?_⟩
      exact hk
def IsChG (f : FnS) : Prop := ∀ (n : Nat) (zs : List Int) (bs : List (List (Int × List Int))) (d : D) (k x : OutK), okProb zs bs → bs.length ≤ 40 → pv n d → k (.bl (choiceB zs d)) [.bot, .bot] → f [problemD zs bs, d] k x
theorem isChG_ok {f0 f1 f2 f3 f4 f5 f6 f7 f8 f9 f10 f11 f12 f13 f14 f15 f16 f17 f18 f19 f20 f21 f22 f23 : FnS} (h22 : NeedG f22) (h23 : ChG f23) : IsChG (wpF [f0, f1, f2, f3, f4, f5, f6, f7, f8, f9, f10, f11, f12, f13, f14, f15, f16, f17, f18, f19, f20, f21, f22, f23] gloD 2 0 B24) := by
  intro n zs bs d k x hp hl hv hk
  have hi := pv_im hv
  have hzl := hp.1
  refine ⟨⟨rfl, rfl⟩, ?_⟩
  conv => whnf
  (try dsimp only [putOuts, wipeD, List.set_cons_zero, List.set_cons_succ, List.cons_append, List.nil_append, List.replicate_succ, List.replicate_zero])
  refine h22 zs bs _ _ hp hl ?_
  conv => whnf
  (try dsimp only [putOuts, wipeD, List.set_cons_zero, List.set_cons_succ, List.cons_append, List.nil_append, List.replicate_succ, List.replicate_zero])
  rw [hi]
  conv => whnf
  (try dsimp only [putOuts, wipeD, List.set_cons_zero, List.set_cons_succ, List.cons_append, List.nil_append, List.replicate_succ, List.replicate_zero])
  refine h23 n zs d _ _ (by omega) hv ?_
  show k (.bl (choiceB zs d)) (outsD [problemD zs bs, d] [problemD zs bs, d])
  rw [show outsD [problemD zs bs, d] [problemD zs bs, d] = [.bot, .bot] by show [D.bot, _] = _; rw [hi]]
  exact hk
end K36

set_option Elab.async false
set_option linter.all false
set_option maxRecDepth 100000
set_option maxHeartbeats 1000000
namespace K36
open PySem PySem.Spec PyProof.Rows L2 MP
theorem asc_ext : ∀ {a b : List Int}, a.Pairwise (· < ·) → b.Pairwise (· < ·) → (∀ i, i ∈ a ↔ i ∈ b) → a = b
  | [], [], _, _, _ => rfl
  | [], y :: b, _, _, h => absurd ((h y).mpr List.mem_cons_self) (by simp)
  | x :: a, [], _, _, h => absurd ((h x).mp List.mem_cons_self) (by simp)
  | x :: a, y :: b, ha, hb, h => by
    obtain ⟨a1, a2⟩ := List.pairwise_cons.mp ha
    obtain ⟨b1, b2⟩ := List.pairwise_cons.mp hb
    have e : x = y := by
      rcases List.mem_cons.mp ((h x).mp List.mem_cons_self) with e | e
      · exact e
      · rcases List.mem_cons.mp ((h y).mpr List.mem_cons_self) with e2 | e2
        · exact e2.symm
        · have := b1 x e; have := a1 y e2; omega
    subst e
    refine congrArg (x :: ·) (asc_ext a2 b2 fun i => ⟨fun hi => ?_, fun hi => ?_⟩)
    · rcases List.mem_cons.mp ((h i).mp (List.mem_cons_of_mem _ hi)) with e | e
      · have := a1 i hi; omega
      · exact e
    · rcases List.mem_cons.mp ((h i).mpr (List.mem_cons_of_mem _ hi)) with e | e
      · have := b1 i hi; omega
      · exact e
def numB : D → Bool
  | .int i => decide (0 ≤ i)
  | _ => false
theorem numB_int {d : D} (h : numB d = true) : ∃ i, d = .int i ∧ 0 ≤ i := by
  cases d <;> first | (cases h; done) | skip
  rename_i i
  exact ⟨i, rfl, of_decide_eq_true h⟩
theorem num_sz {d : D} (h : numB d = false) : szB1 d = false := by
  cases d with
  | int i =>
    have := of_decide_eq_false (show decide (0 ≤ i) = false from h)
    exact decide_eq_false (by omega)
  | _ => rfl
theorem num_bet {d : D} {m : Int} (h : numB d = false) : betB 0 m d = false := by
  cases d with
  | int i =>
    show (decide (0 ≤ i) && _) = false
    rw [show decide (0 ≤ i) = false from h]; rfl
  | _ => rfl
def NumG (f : FnS) : Prop := ∀ (n : Nat) (d : D) (k x : OutK), pv n d → k (.bl (numB d)) [.bot] → f [d] k x
theorem numG_ok {f0 f1 f2 f3 f4 f5 f6 f7 f8 f9 f10 f11 f12 f13 f14 f15 f16 f17 f18 f19 f20 f21 f22 f23 f24 : FnS} : NumG (wpF [f0, f1, f2, f3, f4, f5, f6, f7, f8, f9, f10, f11, f12, f13, f14, f15, f16, f17, f18, f19, f20, f21, f22, f23, f24] gloD 1 0 B25) := by
  intro n d k x hv hk
  rcases pv_cases hv with ⟨m, xs, rfl, rfl, hl, hx⟩ | h
  · refine ⟨⟨rfl, rfl⟩, ?_⟩
    conv => whnf
    (try dsimp only [putOuts, wipeD, List.set_cons_zero, List.set_cons_succ, List.cons_append, List.nil_append, List.replicate_succ, List.replicate_zero])
    refine ⟨(fun h => nomatch h), fun _ => ?_⟩
    exact hk
  · cases h with
    | bl b =>
      refine ⟨⟨rfl, rfl⟩, ?_⟩
      conv => whnf
      (try dsimp only [putOuts, wipeD, List.set_cons_zero, List.set_cons_succ, List.cons_append, List.nil_append, List.replicate_succ, List.replicate_zero])
      refine ⟨fun _ => ?_, fun h => nomatch h⟩
      conv => whnf
      (try dsimp only [putOuts, wipeD, List.set_cons_zero, List.set_cons_succ, List.cons_append, List.nil_append, List.replicate_succ, List.replicate_zero])
      refine ⟨(fun h => nomatch h), fun _ => ?_⟩
      exact hk
    | int i =>
      refine ⟨⟨rfl, rfl⟩, ?_⟩
      conv => whnf
      (try dsimp only [putOuts, wipeD, List.set_cons_zero, List.set_cons_succ, List.cons_append, List.nil_append, List.replicate_succ, List.replicate_zero])
      refine ⟨fun _ => ?_, fun h => nomatch h⟩
      conv => whnf
      (try dsimp only [putOuts, wipeD, List.set_cons_zero, List.set_cons_succ, List.cons_append, List.nil_append, List.replicate_succ, List.replicate_zero])
      refine ⟨fun _ => ?_, fun h => nomatch h⟩
      exact hk
    | _ =>
      refine ⟨⟨rfl, rfl⟩, ?_⟩
      conv => whnf
      (try dsimp only [putOuts, wipeD, List.set_cons_zero, List.set_cons_succ, List.cons_append, List.nil_append, List.replicate_succ, List.replicate_zero])
      refine ⟨(fun h => nomatch h), fun _ => ?_⟩
      exact hk
/-- what is not so -/
def badG (p : D → Bool) (e : D → D) (d : D) : Option D := if p d then none else some (e d)
theorem bad_nil {p : D → Bool} {e : D → D} : ∀ {xs : List D}, nileB false (xs.filterMap (badG p e)) = xs.all p
  | [] => rfl
  | x :: xs => by
    have ih := bad_nil (p := p) (e := e) (xs := xs)
    rw [List.filterMap_cons, List.all_cons]
    unfold badG
    cases h : p x with
    | true => rw [if_pos rfl]; exact ih
    | false => rw [if_neg Bool.false_ne_true]; rfl
theorem bad_ne {p : D → Bool} {e : D → D} {xs : List D} : nileB true (xs.filterMap (badG p e)) = !xs.all p := by
  rw [← bad_nil (p := p) (e := e)]; rfl
def LSzG (f : FnS) : Prop := ∀ (n : Nat) (d : D) (k x : OutK), pv n d → k (.bl (sizesB d)) [.bot] → f [d] k x
theorem lszG_ok {f0 f1 f2 f3 f4 f5 f6 f7 f8 f9 f10 f11 f12 f13 f14 f15 f16 f17 f18 f19 f20 f21 f22 f23 f24 f25 : FnS} (h : NumG f25) : LSzG (wpF [f0, f1, f2, f3, f4, f5, f6, f7, f8, f9, f10, f11, f12, f13, f14, f15, f16, f17, f18, f19, f20, f21, f22, f23, f24, f25] gloD 1 1 B26) := by
  intro n d k x hv hk
  have eb : big = 16777216 := rfl
  rcases pv_cases hv with ⟨n, xs, rfl, rfl, hl, hx⟩ | hn
  · refine ⟨⟨rfl, rfl⟩, ?_⟩
    conv => whnf
    (try dsimp only [putOuts, wipeD, List.set_cons_zero, List.set_cons_succ, List.cons_append, List.nil_append, List.replicate_succ, List.replicate_zero])
    refine ⟨fun _ => ?_, fun h => nomatch h⟩
    conv => whnf
    (try dsimp only [putOuts, wipeD, List.set_cons_zero, List.set_cons_succ, List.cons_append, List.nil_append, List.replicate_succ, List.replicate_zero])
    refine ⟨rfl, ?_⟩
    refine forC_map (badG szB1 id) trivial (by omega) (fun d k2 hd hk2 => ?_) ?_
    · have hp := hx d hd
      have hi := pv_im hp
      conv => whnf
      (try dsimp only [putOuts, wipeD, List.set_cons_zero, List.set_cons_succ, List.cons_append, List.nil_append, List.replicate_succ, List.replicate_zero])
      rw [hi]
      conv => whnf
      (try dsimp only [putOuts, wipeD, List.set_cons_zero, List.set_cons_succ, List.cons_append, List.nil_append, List.replicate_succ, List.replicate_zero])
      rw [hi]
      conv => whnf
      (try dsimp only [putOuts, wipeD, List.set_cons_zero, List.set_cons_succ, List.cons_append, List.nil_append, List.replicate_succ, List.replicate_zero])
      refine h n d _ _ hp ?_
      refine ⟨fun hb => ?_, fun hb => ?_⟩
      · have e : badG szB1 id d = some d := by
          unfold badG
          have : szB1 d = false := num_sz (not_t hb)
          rw [this]; rfl
        rw [e] at hk2
        conv => whnf
        (try dsimp only [putOuts, wipeD, List.set_cons_zero, List.set_cons_succ, List.cons_append, List.nil_append, List.replicate_succ, List.replicate_zero])
        refine ⟨fun _ => ?_, fun h => nomatch h⟩
        conv => whnf
        (try dsimp only [putOuts, wipeD, List.set_cons_zero, List.set_cons_succ, List.cons_append, List.nil_append, List.replicate_succ, List.replicate_zero])
        rw [hi]
        exact hk2
      · obtain ⟨i, rfl, h0⟩ := numB_int (not_f hb)
        conv => whnf
        (try dsimp only [putOuts, wipeD, List.set_cons_zero, List.set_cons_succ, List.cons_append, List.nil_append, List.replicate_succ, List.replicate_zero])
        refine ⟨fun hz => ?_, fun hz => ?_⟩
        · have e : badG szB1 id (.int i) = some (.int i) := by
            unfold badG
            have hz : i = 0 := of_decide_eq_true hz
            rw [show szB1 (.int i) = false from decide_eq_false (by omega)]; rfl
          rw [e] at hk2
          exact hk2
        · have e : badG szB1 id (.int i) = none := by
            unfold badG
            have hz : ¬ i = 0 := of_decide_eq_false hz
            rw [show szB1 (.int i) = true from decide_eq_true (by omega)]; rfl
          rw [e] at hk2
          exact hk2
    conv => whnf
    (try dsimp only [putOuts, wipeD, List.set_cons_zero, List.set_cons_succ, List.cons_append, List.nil_append, List.replicate_succ, List.replicate_zero])
    rw [bad_nil]
    exact hk
  · cases hn with
    | _ =>
      refine ⟨⟨rfl, rfl⟩, ?_⟩
      conv => whnf
      (try dsimp only [putOuts, wipeD, List.set_cons_zero, List.set_cons_succ, List.cons_append, List.nil_append, List.replicate_succ, List.replicate_zero])
      refine ⟨(fun h => nomatch h), fun _ => ?_⟩
      exact hk
theorem eqv_listI {a b : List Int} : PyData.eqv (.list (a.map PyData.int)) (.list (b.map PyData.int)) = decide (a = b) := by
  unfold PyData.eqv; exact eqv_ints
def geP : D → Bool
  | .pr [a, b] => decide (firstI a < firstI b)
  | _ => false
theorem zipD_map : ∀ {xs ys : List D}, zipD xs ys = (xs.zip ys).map fun p => D.pr [p.1, p.2]
  | [], ys => by cases ys <;> rfl
  | x :: xs, [] => rfl
  | x :: xs, y :: ys => by
    show D.pr [x, y] :: zipD xs ys = _
    rw [zipD_map]; rfl
theorem all_ge {ts : List D} : (zipD ts (ts.drop 1)).all geP = riseB (ts.map firstI) := by
  rw [zipD_map, List.all_map]
  unfold riseB
  rw [← List.map_drop, List.zip_map, List.all_map]
  rfl
theorem term_form {zs : List Int} {d : D} (h : termB zs d = true) : ∃ i b, d = .tup [.int i, b] ∧ 0 ≤ i ∧ i < zs.length ∧ marksB (zs.getD i.toNat 0) b = true := by
  unfold termB at h
  split at h
  · rename_i a b
    rw [Bool.and_eq_true] at h
    obtain ⟨i, rfl, h1, h2⟩ := betB_int h.1
    exact ⟨i, b, rfl, h1, by omega, h.2⟩
  · cases h
def LBarG (f : FnS) : Prop := ∀ (n : Nat) (zs : List Int) (d : D) (k x : OutK), zs.length ≤ 100 → pv n d → k (.bl (barB zs d)) [.bot, .bot] → f [tupI zs, d] k x
theorem lbarG_ok {f0 f1 f2 f3 f4 f5 f6 f7 f8 f9 f10 f11 f12 f13 f14 f15 f16 f17 f18 f19 f20 f21 f22 f23 f24 f25 f26 : FnS} (h25 : NumG f25) : LBarG (wpF [f0, f1, f2, f3, f4, f5, f6, f7, f8, f9, f10, f11, f12, f13, f14, f15, f16, f17, f18, f19, f20, f21, f22, f23, f24, f25, f26] gloD 2 4 B27) := by
  intro n zs d k x hz hv hk
  have eb : big = 16777216 := rfl
  have elen : ((intsD zs).length : Int) = zs.length := by rw [intsD, List.length_map]
  rcases pv_cases hv with ⟨n, ts, rfl, rfl, hl, hx⟩ | hn
  · have hk : k (.bl (ts.all (termB zs) && riseB (ts.map firstI))) [.bot, .bot] := hk
    have no : ∀ d ∈ ts, termB zs d = false → k (.bl false) [.bot, .bot] := fun d hd h => by
      have : ts.all (termB zs) = false := by
        cases q : ts.all (termB zs) with
        | false => rfl
        | true => rw [List.all_eq_true.mp q d hd] at h; cases h
      rw [this] at hk
      exact hk
    refine ⟨⟨rfl, rfl⟩, ?_⟩
    conv => whnf
    (try dsimp only [putOuts, wipeD, List.set_cons_zero, List.set_cons_succ, List.cons_append, List.nil_append, List.replicate_succ, List.replicate_zero])
    refine ⟨(fun h => nomatch h), fun _ => ?_⟩
    conv => whnf
    (try dsimp only [putOuts, wipeD, List.set_cons_zero, List.set_cons_succ, List.cons_append, List.nil_append, List.replicate_succ, List.replicate_zero])
    refine ⟨rfl, ?_⟩
    refine forL_of (fun i σ => (∀ t ∈ ts.take i, termB zs t = true) ∧ ∃ e, σ = [tupI zs, .tup ts, e, .bot, .bot, .bot]) ⟨(fun t h => nomatch h), _, rfl⟩ (fun _ _ _ => trivial) (fun i d σ k2 hd hi hk2 => ?_) fun σ hi => ?_
    · obtain ⟨hall, e, rfl⟩ := hi
      have hm : d ∈ ts := List.mem_of_getElem? hd
      have hp := hx d hm
      have next : termB zs d = true → ∀ e, k2 [tupI zs, .tup ts, e, .bot, .bot, .bot] := fun h e => hk2 _ ⟨fun t ht => by
        rw [List.take_succ, hd] at ht
        rcases List.mem_append.mp ht with h1 | h1
        · exact hall t h1
        · have : t = d := by simpa using h1
          subst this; exact h, e, rfl⟩
      have no := no d hm
      rcases pv_cases hp with ⟨n, xs, rfl, rfl, hxl, hxx⟩ | hn
      · conv => whnf
        (try dsimp only [putOuts, wipeD, List.set_cons_zero, List.set_cons_succ, List.cons_append, List.nil_append, List.replicate_succ, List.replicate_zero])
        refine ⟨(fun h => nomatch h), fun _ => ?_⟩
        conv => whnf
        (try dsimp only [putOuts, wipeD, List.set_cons_zero, List.set_cons_succ, List.cons_append, List.nil_append, List.replicate_succ, List.replicate_zero])
        refine ⟨fun h2 => ?_, fun h2 => ?_⟩
        · have h2 : (!decide ((xs.length : Int) = 2)) = true := h2
          conv => whnf
          (try dsimp only [putOuts, wipeD, List.set_cons_zero, List.set_cons_succ, List.cons_append, List.nil_append, List.replicate_succ, List.replicate_zero])
          refine ⟨fun _ => ?_, fun h => nomatch h⟩
          exact no (termB_no (show rowB 2 (.tup xs) = false from not_t h2))
        have h2 : (!decide ((xs.length : Int) = 2)) = false := h2
        obtain ⟨a, b, rfl⟩ := rowB2 (show rowB 2 (.tup xs) = true from not_f h2)
        have ha := hxx a List.mem_cons_self
        have hb := hxx b (List.mem_cons_of_mem _ List.mem_cons_self)
        have ia := pv_im ha
        have ib := pv_im hb
        conv => whnf
        (try dsimp only [putOuts, wipeD, List.set_cons_zero, List.set_cons_succ, List.cons_append, List.nil_append, List.replicate_succ, List.replicate_zero])
        rw [ia]
        conv => whnf
        (try dsimp only [putOuts, wipeD, List.set_cons_zero, List.set_cons_succ, List.cons_append, List.nil_append, List.replicate_succ, List.replicate_zero])
        refine h25 _ a _ _ ha ?_
        refine ⟨fun h => ?_, fun h => ?_⟩
        · have h := not_t h
          conv => whnf
          (try dsimp only [putOuts, wipeD, List.set_cons_zero, List.set_cons_succ, List.cons_append, List.nil_append, List.replicate_succ, List.replicate_zero])
          refine ⟨fun _ => ?_, fun h => nomatch h⟩
          refine no ?_
          show (betB 0 (zs.length - 1) a && _) = false
          have : betB 0 (zs.length - 1) a = false := num_bet h
          rw [this]; rfl
        obtain ⟨i, rfl, hi0⟩ := numB_int (not_f h)
        conv => whnf
        (try dsimp only [putOuts, wipeD, List.set_cons_zero, List.set_cons_succ, List.cons_append, List.nil_append, List.replicate_succ, List.replicate_zero])
        rw [elen]
        refine ⟨fun h => ?_, fun h => ?_⟩
        · have h : (zs.length : Int) ≤ i := of_decide_eq_true h
          conv => whnf
          (try dsimp only [putOuts, wipeD, List.set_cons_zero, List.set_cons_succ, List.cons_append, List.nil_append, List.replicate_succ, List.replicate_zero])
          refine no ?_
          show ((decide (0 ≤ i) && decide (i ≤ (zs.length : Int) - 1)) && _) = false
          rw [decide_eq_false (by omega : ¬ i ≤ (zs.length : Int) - 1), Bool.and_false]; rfl
        have hi1 : i < zs.length := by have := of_decide_eq_false h; omega
        obtain ⟨z, hz1⟩ : ∃ z, zs[i.toNat]? = some z := ⟨_, List.getElem?_eq_getElem (by omega)⟩
        have tb : termB zs (.tup [.int i, b]) = marksB z b := by
          show ((decide (0 ≤ i) && decide (i ≤ (zs.length : Int) - 1)) && marksB (zs.getD i.toNat 0) b) = _
          rw [show zs.getD i.toNat 0 = z by rw [List.getD_eq_getElem?_getD, hz1]; rfl, decide_eq_true hi0, decide_eq_true (by omega : i ≤ (zs.length : Int) - 1)]; rfl
        have hix : ixOf (tupI zs) (.int i) = some i.toNat := by
          show ixN (intsD zs).length i = _
          unfold ixN
          rw [if_pos hi0, if_pos (by rw [intsD, List.length_map]; omega)]
        have hkid : (tupI zs).kids[i.toNat]? = some (.int z) := by
          show (intsD zs)[i.toNat]? = _
          rw [intsD, List.getElem?_map, hz1]; rfl
        rw [tb] at no next
        rcases pv_cases hb with ⟨n, ys, rfl, rfl, hyl, hy⟩ | hn
        · conv => whnf
          (try dsimp only [putOuts, wipeD, List.set_cons_zero, List.set_cons_succ, List.cons_append, List.nil_append, List.replicate_succ, List.replicate_zero])
          refine ⟨(fun h => nomatch h), fun _ => ?_⟩
          conv => whnf
          (try dsimp only [putOuts, wipeD, List.set_cons_zero, List.set_cons_succ, List.cons_append, List.nil_append, List.replicate_succ, List.replicate_zero])
          refine ⟨rfl, ?_⟩
          refine forC_map (badG (betB 0 (z - 1)) id) trivial (by omega) (fun d k3 hd3 hk3 => ?_) ?_
          · have hp3 := hy d hd3
            have hi3 := pv_im hp3
            conv => whnf
            (try dsimp only [putOuts, wipeD, List.set_cons_zero, List.set_cons_succ, List.cons_append, List.nil_append, List.replicate_succ, List.replicate_zero])
            rw [hi3]
            conv => whnf
            (try dsimp only [putOuts, wipeD, List.set_cons_zero, List.set_cons_succ, List.cons_append, List.nil_append, List.replicate_succ, List.replicate_zero])
            rw [hi3]
            conv => whnf
            (try dsimp only [putOuts, wipeD, List.set_cons_zero, List.set_cons_succ, List.cons_append, List.nil_append, List.replicate_succ, List.replicate_zero])
            refine h25 _ d _ _ hp3 ?_
            refine ⟨fun h => ?_, fun h => ?_⟩
            · have h := not_t h
              have e : badG (betB 0 (z - 1)) id d = some d := by
                unfold badG
                have : betB 0 (z - 1) d = false := num_bet h
                rw [this]; rfl
              rw [e] at hk3
              conv => whnf
              (try dsimp only [putOuts, wipeD, List.set_cons_zero, List.set_cons_succ, List.cons_append, List.nil_append, List.replicate_succ, List.replicate_zero])
              refine ⟨fun _ => ?_, fun h => nomatch h⟩
              conv => whnf
              (try dsimp only [putOuts, wipeD, List.set_cons_zero, List.set_cons_succ, List.cons_append, List.nil_append, List.replicate_succ, List.replicate_zero])
              rw [hi3]
              exact hk3
            obtain ⟨j, rfl, hj0⟩ := numB_int (not_f h)
            conv => whnf
            (try dsimp only [putOuts, wipeD, List.set_cons_zero, List.set_cons_succ, List.cons_append, List.nil_append, List.replicate_succ, List.replicate_zero])
            rw [hix]
            refine itemS_im (e := .int z) hkid rfl ?_
            conv => whnf
            (try dsimp only [putOuts, wipeD, List.set_cons_zero, List.set_cons_succ, List.cons_append, List.nil_append, List.replicate_succ, List.replicate_zero])
            refine ⟨fun h => ?_, fun h => ?_⟩
            · have h : z ≤ j := of_decide_eq_true h
              have e : badG (betB 0 (z - 1)) id (.int j) = some (.int j) := by
                unfold badG
                rw [show betB 0 (z - 1) (.int j) = false by show (decide (0 ≤ j) && decide (j ≤ z - 1)) = false; rw [decide_eq_false (by omega : ¬ j ≤ z - 1), Bool.and_false]]; rfl
              rw [e] at hk3
              exact hk3
            · have h : ¬ z ≤ j := of_decide_eq_false h
              have e : badG (betB 0 (z - 1)) id (.int j) = none := by
                unfold badG
                rw [show betB 0 (z - 1) (.int j) = true by show (decide (0 ≤ j) && decide (j ≤ z - 1)) = true; rw [decide_eq_true hj0, decide_eq_true (by omega : j ≤ z - 1)]; rfl]; rfl
              rw [e] at hk3
              exact hk3
          conv => whnf
          (try dsimp only [putOuts, wipeD, List.set_cons_zero, List.set_cons_succ, List.cons_append, List.nil_append, List.replicate_succ, List.replicate_zero])
          rw [bad_ne]
          have mk : marksB z (.tup ys) = (ys.all (betB 0 (z - 1)) && (riseB (ys.map iv) && (decide (1 ≤ (ys.length : Int)) && decide ((ys.length : Int) < z)))) := rfl
          rw [mk] at no next
          refine ⟨fun h => ?_, fun h => ?_⟩
          · rw [not_t h] at no
            exact no rfl
          have h := not_f h
          rw [h, Bool.true_and] at no next
          have ey := all_ints (fun d h => let ⟨i, e, _⟩ := betB_int h; ⟨i, e⟩) h
          have eyl : ys.length = (ys.map iv).length := by rw [List.length_map]
          rw [eyl] at no next hyl
          generalize ys.map iv = ns at ey no next hyl
          subst ey
          have ln : ((intsD ns).length : Int) = ns.length := by rw [intsD, List.length_map]
          conv => whnf
          (try dsimp only [putOuts, wipeD, List.set_cons_zero, List.set_cons_succ, List.cons_append, List.nil_append, List.replicate_succ, List.replicate_zero])
          refine ⟨imAll_ints, ?_⟩
          conv => whnf
          (try dsimp only [putOuts, wipeD, List.set_cons_zero, List.set_cons_succ, List.cons_append, List.nil_append, List.replicate_succ, List.replicate_zero])
          refine .inl ⟨intsD ns, ns, rfl, ints_some, by omega, fun ls hls hmem => ?_⟩
          conv => whnf
          (try dsimp only [putOuts, wipeD, List.set_cons_zero, List.set_cons_succ, List.cons_append, List.nil_append, List.replicate_succ, List.replicate_zero])
          refine ⟨_, _, py_ints (ns := ns), py_ints (ns := ls), shaped_ints, shaped_ints, ?_⟩
          rw [eqv_listI]
          have key : decide (ns = ls) = riseB ns := by
            by_cases e : ns = ls
            · rw [decide_eq_true e, e, riseB_of hls]
            · rw [decide_eq_false e]
              cases q : riseB ns with
              | false => rfl
              | true => exact absurd (asc_ext (of_riseB q) hls fun i => (hmem i).symm) e
          rw [key]
          refine ⟨fun h => ?_, fun h => ?_⟩
          · rw [not_t h] at no
            conv => whnf
            (try dsimp only [putOuts, wipeD, List.set_cons_zero, List.set_cons_succ, List.cons_append, List.nil_append, List.replicate_succ, List.replicate_zero])
            refine ⟨fun _ => ?_, fun h => nomatch h⟩
            exact no rfl
          rw [not_f h, Bool.true_and] at no next
          conv => whnf
          (try dsimp only [putOuts, wipeD, List.set_cons_zero, List.set_cons_succ, List.cons_append, List.nil_append, List.replicate_succ, List.replicate_zero])
          rw [ln]
          refine ⟨fun h => ?_, fun h => ?_⟩
          · have h : (0 : Int) < ns.length := of_decide_eq_true h
            rw [decide_eq_true (by omega : (1 : Int) ≤ ns.length), Bool.true_and] at no next
            conv => whnf
            (try dsimp only [putOuts, wipeD, List.set_cons_zero, List.set_cons_succ, List.cons_append, List.nil_append, List.replicate_succ, List.replicate_zero])
            rw [hix]
            refine itemS_im (e := .int z) hkid rfl ?_
            conv => whnf
            (try dsimp only [putOuts, wipeD, List.set_cons_zero, List.set_cons_succ, List.cons_append, List.nil_append, List.replicate_succ, List.replicate_zero])
            refine ⟨fun h => ?_, fun h => ?_⟩
            · have h := not_t h
              exact no h
            · exact next (not_f h) _
          · have h : ¬ (0 : Int) < ns.length := of_decide_eq_false h
            rw [decide_eq_false (by omega : ¬ (1 : Int) ≤ ns.length)] at no
            conv => whnf
            (try dsimp only [putOuts, wipeD, List.set_cons_zero, List.set_cons_succ, List.cons_append, List.nil_append, List.replicate_succ, List.replicate_zero])
            refine ⟨fun _ => ?_, fun h => nomatch h⟩
            exact no rfl
        · have mn : marksB z b = false := by cases hn <;> rfl
          cases hn with
          | _ =>
            conv => whnf
            (try dsimp only [putOuts, wipeD, List.set_cons_zero, List.set_cons_succ, List.cons_append, List.nil_append, List.replicate_succ, List.replicate_zero])
            refine ⟨fun _ => ?_, fun h => nomatch h⟩
            conv => whnf
            (try dsimp only [putOuts, wipeD, List.set_cons_zero, List.set_cons_succ, List.cons_append, List.nil_append, List.replicate_succ, List.replicate_zero])
            refine ⟨fun _ => ?_, fun h => nomatch h⟩
            exact no mn
      · cases hn with
        | _ =>
          conv => whnf
          (try dsimp only [putOuts, wipeD, List.set_cons_zero, List.set_cons_succ, List.cons_append, List.nil_append, List.replicate_succ, List.replicate_zero])
          refine ⟨fun _ => ?_, fun h => nomatch h⟩
          conv => whnf
          (try dsimp only [putOuts, wipeD, List.set_cons_zero, List.set_cons_succ, List.cons_append, List.nil_append, List.replicate_succ, List.replicate_zero])
          refine ⟨fun _ => ?_, fun h => nomatch h⟩
          exact no rfl
    · obtain ⟨hall, e, rfl⟩ := hi
      rw [List.take_length] at hall
      rw [List.all_eq_true.mpr hall, Bool.true_and] at hk
      conv => whnf
      (try dsimp only [putOuts, wipeD, List.set_cons_zero, List.set_cons_succ, List.cons_append, List.nil_append, List.replicate_succ, List.replicate_zero])
      rw [cut_tl]
      refine ⟨⟨pv_all_im hx, imAll_of fun d hd => pv_im (hx d (List.mem_of_mem_drop hd)), rfl, by show (1 : Nat) ≠ 0; decide⟩, rfl, ?_⟩
      refine forC_map (badG geP fun _ => .int 1) ⟨trivial, trivial⟩ (by rw [zipD_len]; omega) (fun d k2 hd hk2 => ?_) ?_
      · rw [zipD_map] at hd
        obtain ⟨⟨t1, t2⟩, hp, rfl⟩ := List.mem_map.mp hd
        obtain ⟨i1, b1, rfl, _⟩ := term_form (hall t1 (List.of_mem_zip hp).1)
        obtain ⟨i2, b2, rfl, _⟩ := term_form (hall t2 (List.mem_of_mem_drop (List.of_mem_zip hp).2))
        conv => whnf
        (try dsimp only [putOuts, wipeD, List.set_cons_zero, List.set_cons_succ, List.cons_append, List.nil_append, List.replicate_succ, List.replicate_zero])
        refine ⟨fun h => ?_, fun h => ?_⟩
        · have h : i2 ≤ i1 := of_decide_eq_true h
          have e : badG geP (fun _ => D.int 1) (.pr [.tup [.int i1, b1], .tup [.int i2, b2]]) = some (.int 1) := by
            unfold badG
            rw [show geP (.pr [.tup [.int i1, b1], .tup [.int i2, b2]]) = false from decide_eq_false (by show ¬ i1 < i2; omega)]; rfl
          rw [e] at hk2
          exact hk2
        · have h : ¬ i2 ≤ i1 := of_decide_eq_false h
          have e : badG geP (fun _ => D.int 1) (.pr [.tup [.int i1, b1], .tup [.int i2, b2]]) = none := by
            unfold badG
            rw [show geP (.pr [.tup [.int i1, b1], .tup [.int i2, b2]]) = true from decide_eq_true (by show i1 < i2; omega)]; rfl
          rw [e] at hk2
          exact hk2
      conv => whnf
      (try dsimp only [putOuts, wipeD, List.set_cons_zero, List.set_cons_succ, List.cons_append, List.nil_append, List.replicate_succ, List.replicate_zero])
      rw [bad_nil, all_ge]
      exact hk
  · cases hn with
    | _ =>
      refine ⟨⟨rfl, rfl⟩, ?_⟩
      conv => whnf
      (try dsimp only [putOuts, wipeD, List.set_cons_zero, List.set_cons_succ, List.cons_append, List.nil_append, List.replicate_succ, List.replicate_zero])
      refine ⟨fun _ => ?_, fun h => nomatch h⟩
      exact hk
end K36

set_option Elab.async false
set_option linter.all false
set_option maxRecDepth 100000
set_option maxHeartbeats 1000000
namespace K36
open PySem PySem.Spec PyProof.Rows L2 MP
def LProbG (f : FnS) : Prop := ∀ (n : Nat) (d : D) (k x : OutK), pv n d → k (.bl (probB d)) [.bot] → f [d] k x
theorem lprobG_ok {f0 f1 f2 f3 f4 f5 f6 f7 f8 f9 f10 f11 f12 f13 f14 f15 f16 f17 f18 f19 f20 f21 f22 f23 f24 f25 f26 f27 : FnS} (h26 : LSzG f26) (h27 : LBarG f27) : LProbG (wpF [f0, f1, f2, f3, f4, f5, f6, f7, f8, f9, f10, f11, f12, f13, f14, f15, f16, f17, f18, f19, f20, f21, f22, f23, f24, f25, f26, f27] gloD 1 1 B28) := by
  intro n d k x hv hk
  have eb : big = 16777216 := rfl
  rcases pv_cases hv with ⟨n, xs, rfl, rfl, hl, hx⟩ | hn
  · refine ⟨⟨rfl, rfl⟩, ?_⟩
    conv => whnf
    (try dsimp only [putOuts, wipeD, List.set_cons_zero, List.set_cons_succ, List.cons_append, List.nil_append, List.replicate_succ, List.replicate_zero])
    refine ⟨(fun h => nomatch h), fun _ => ?_⟩
    conv => whnf
    (try dsimp only [putOuts, wipeD, List.set_cons_zero, List.set_cons_succ, List.cons_append, List.nil_append, List.replicate_succ, List.replicate_zero])
    refine ⟨fun h => ?_, fun h => ?_⟩
    · have h : (!decide ((xs.length : Int) = 2)) = true := h
      have hk : k (.bl (probB (.tup xs))) [.bot] := hk
      rw [probB_no (show rowB 2 (.tup xs) = false from not_t h)] at hk
      conv => whnf
      (try dsimp only [putOuts, wipeD, List.set_cons_zero, List.set_cons_succ, List.cons_append, List.nil_append, List.replicate_succ, List.replicate_zero])
      refine ⟨fun _ => ?_, fun h => nomatch h⟩
      exact hk
    have h : (!decide ((xs.length : Int) = 2)) = false := h
    obtain ⟨a, b, rfl⟩ := rowB2 (show rowB 2 (.tup xs) = true from not_f h)
    have ha := hx a List.mem_cons_self
    have hb := hx b (List.mem_cons_of_mem _ List.mem_cons_self)
    have ia := pv_im ha
    conv => whnf
    (try dsimp only [putOuts, wipeD, List.set_cons_zero, List.set_cons_succ, List.cons_append, List.nil_append, List.replicate_succ, List.replicate_zero])
    rw [ia]
    conv => whnf
    (try dsimp only [putOuts, wipeD, List.set_cons_zero, List.set_cons_succ, List.cons_append, List.nil_append, List.replicate_succ, List.replicate_zero])
    refine h26 _ a _ _ ha ?_
    refine ⟨fun h => ?_, fun h => ?_⟩
    · have : probB (.tup [a, b]) = false := by
        have hs0 := not_t h
        cases b <;> first | rfl | skip
        show (sizesB a && _) = false
        rw [hs0]; rfl
      have hk : k (.bl (probB (.tup [a, b]))) [.bot] := hk
      rw [this] at hk
      conv => whnf
      (try dsimp only [putOuts, wipeD, List.set_cons_zero, List.set_cons_succ, List.cons_append, List.nil_append, List.replicate_succ, List.replicate_zero])
      refine ⟨fun _ => ?_, fun h => nomatch h⟩
      exact hk
    have hs1 := not_f h
    obtain ⟨ea, hz⟩ := sizes_tup hs1
    have hzl : (kidI a).length ≤ 41 := by
      rcases pv_cases ha with ⟨_, ys, rfl, rfl, hyl, _⟩ | hn
      · show (ys.map iv).length ≤ 41
        rw [List.length_map]; exact hyl
      · cases hn <;> cases hs1
    generalize kidI a = zs at ea hz hzl
    subst ea
    rcases pv_cases hb with ⟨n, bs, rfl, rfl, hbl, hbx⟩ | hn
    · have hk : k (.bl (sizesB (tupI zs) && bs.all (barB (kidI (tupI zs))))) [.bot] := hk
      rw [hs1, Bool.true_and, kid_tupI] at hk
      conv => whnf
      (try dsimp only [putOuts, wipeD, List.set_cons_zero, List.set_cons_succ, List.cons_append, List.nil_append, List.replicate_succ, List.replicate_zero])
      refine ⟨(fun h => nomatch h), fun _ => ?_⟩
      conv => whnf
      (try dsimp only [putOuts, wipeD, List.set_cons_zero, List.set_cons_succ, List.cons_append, List.nil_append, List.replicate_succ, List.replicate_zero])
      refine ⟨rfl, ?_⟩
      refine forC_map (badG (barB zs) id) trivial (by omega) (fun d k2 hd hk2 => ?_) ?_
      · have hp := hbx d hd
        have hi := pv_im hp
        conv => whnf
        (try dsimp only [putOuts, wipeD, List.set_cons_zero, List.set_cons_succ, List.cons_append, List.nil_append, List.replicate_succ, List.replicate_zero])
        rw [hi]
        conv => whnf
        (try dsimp only [putOuts, wipeD, List.set_cons_zero, List.set_cons_succ, List.cons_append, List.nil_append, List.replicate_succ, List.replicate_zero])
        rw [hi]
        conv => whnf
        (try dsimp only [putOuts, wipeD, List.set_cons_zero, List.set_cons_succ, List.cons_append, List.nil_append, List.replicate_succ, List.replicate_zero])
        refine h27 n zs d _ _ (by omega) hp ?_
        refine ⟨fun h => ?_, fun h => ?_⟩
        · have e : badG (barB zs) id d = some d := by
            unfold badG
            rw [not_t h]; rfl
          rw [e] at hk2
          conv => whnf
          (try dsimp only [putOuts, wipeD, List.set_cons_zero, List.set_cons_succ, List.cons_append, List.nil_append, List.replicate_succ, List.replicate_zero])
          rw [hi]
          exact hk2
        · have e : badG (barB zs) id d = none := by
            unfold badG
            rw [not_f h]; rfl
          rw [e] at hk2
          exact hk2
      conv => whnf
      (try dsimp only [putOuts, wipeD, List.set_cons_zero, List.set_cons_succ, List.cons_append, List.nil_append, List.replicate_succ, List.replicate_zero])
      rw [bad_nil]
      exact hk
    · cases hn with
      | _ =>
        conv => whnf
        (try dsimp only [putOuts, wipeD, List.set_cons_zero, List.set_cons_succ, List.cons_append, List.nil_append, List.replicate_succ, List.replicate_zero])
        refine ⟨fun _ => ?_, fun h => nomatch h⟩
        exact hk
  · cases hn with
    | _ =>
      refine ⟨⟨rfl, rfl⟩, ?_⟩
      conv => whnf
      (try dsimp only [putOuts, wipeD, List.set_cons_zero, List.set_cons_succ, List.cons_append, List.nil_append, List.replicate_succ, List.replicate_zero])
      refine ⟨fun _ => ?_, fun h => nomatch h⟩
      conv => whnf
      (try dsimp only [putOuts, wipeD, List.set_cons_zero, List.set_cons_succ, List.cons_append, List.nil_append, List.replicate_succ, List.replicate_zero])
      refine ⟨fun _ => ?_, fun h => nomatch h⟩
      exact hk
def LChG (f : FnS) : Prop := ∀ (n : Nat) (zs : List Int) (d : D) (k x : OutK), zs.length ≤ 100 → pv n d → k (.bl (choiceB zs d)) [.bot, .bot] → f [tupI zs, d] k x
theorem lchG_ok {f0 f1 f2 f3 f4 f5 f6 f7 f8 f9 f10 f11 f12 f13 f14 f15 f16 f17 f18 f19 f20 f21 f22 f23 f24 f25 f26 f27 f28 : FnS} (h25 : NumG f25) : LChG (wpF [f0, f1, f2, f3, f4, f5, f6, f7, f8, f9, f10, f11, f12, f13, f14, f15, f16, f17, f18, f19, f20, f21, f22, f23, f24, f25, f26, f27, f28] gloD 2 2 B29) := by
  intro n zs d k x hz hv hk
  have eb : big = 16777216 := rfl
  have el : ((intsD zs).length : Int) = zs.length := by rw [intsD, List.length_map]
  rcases pv_cases hv with ⟨n, xs, rfl, rfl, hl, hx⟩ | hn
  · have hk : k (.bl (decide ((xs.length : Int) = (zs.length : Int)) && (xs.zip zs).all fun p => betB 0 (p.2 - 1) p.1)) [.bot, .bot] := hk
    refine ⟨⟨rfl, rfl⟩, ?_⟩
    conv => whnf
    (try dsimp only [putOuts, wipeD, List.set_cons_zero, List.set_cons_succ, List.cons_append, List.nil_append, List.replicate_succ, List.replicate_zero])
    refine ⟨(fun h => nomatch h), fun _ => ?_⟩
    conv => whnf
    (try dsimp only [putOuts, wipeD, List.set_cons_zero, List.set_cons_succ, List.cons_append, List.nil_append, List.replicate_succ, List.replicate_zero])
    rw [el]
    refine ⟨fun h => ?_, fun h => ?_⟩
    · have h : (!decide ((xs.length : Int) = (zs.length : Int))) = true := h
      rw [not_t h] at hk
      exact hk
    have h : (!decide ((xs.length : Int) = (zs.length : Int))) = false := h
    rw [not_f h, Bool.true_and] at hk
    conv => whnf
    (try dsimp only [putOuts, wipeD, List.set_cons_zero, List.set_cons_succ, List.cons_append, List.nil_append, List.replicate_succ, List.replicate_zero])
    refine ⟨⟨pv_all_im hx, imAll_ints, rfl, by show (1 : Nat) ≠ 0; decide⟩, rfl, ?_⟩
    refine forC_map (badG chP fun _ => .int 1) ⟨trivial, trivial⟩ (by rw [zipD_len]; omega) (fun d k2 hd hk2 => ?_) ?_
    · rw [zipD_ints] at hd
      obtain ⟨⟨y, z⟩, hp, rfl⟩ := List.mem_map.mp hd
      have hy := hx y (List.of_mem_zip hp).1
      have hi := pv_im hy
      dsimp only at hk2 ⊢
      conv => whnf
      (try dsimp only [putOuts, wipeD, List.set_cons_zero, List.set_cons_succ, List.cons_append, List.nil_append, List.replicate_succ, List.replicate_zero])
      rw [hi]
      conv => whnf
      (try dsimp only [putOuts, wipeD, List.set_cons_zero, List.set_cons_succ, List.cons_append, List.nil_append, List.replicate_succ, List.replicate_zero])
      rw [hi]
      conv => whnf
      (try dsimp only [putOuts, wipeD, List.set_cons_zero, List.set_cons_succ, List.cons_append, List.nil_append, List.replicate_succ, List.replicate_zero])
      refine h25 _ y _ _ hy ?_
      refine ⟨fun h => ?_, fun h => ?_⟩
      · have h := not_t h
        have e : badG chP (fun _ => D.int 1) (.pr [y, .int z]) = some (.int 1) := by
          unfold badG
          have : chP (.pr [y, .int z]) = false := num_bet h
          rw [this]; rfl
        rw [e] at hk2
        conv => whnf
        (try dsimp only [putOuts, wipeD, List.set_cons_zero, List.set_cons_succ, List.cons_append, List.nil_append, List.replicate_succ, List.replicate_zero])
        refine ⟨fun _ => ?_, fun h => nomatch h⟩
        exact hk2
      · obtain ⟨j, rfl, hj0⟩ := numB_int (not_f h)
        conv => whnf
        (try dsimp only [putOuts, wipeD, List.set_cons_zero, List.set_cons_succ, List.cons_append, List.nil_append, List.replicate_succ, List.replicate_zero])
        refine ⟨fun h => ?_, fun h => ?_⟩
        · have h : z ≤ j := of_decide_eq_true h
          have e : badG chP (fun _ => D.int 1) (.pr [.int j, .int z]) = some (.int 1) := by
            unfold badG
            rw [show chP (.pr [.int j, .int z]) = false by show (decide (0 ≤ j) && decide (j ≤ z - 1)) = false; rw [decide_eq_false (by omega : ¬ j ≤ z - 1), Bool.and_false]]; rfl
          rw [e] at hk2
          exact hk2
        · have h : ¬ z ≤ j := of_decide_eq_false h
          have e : badG chP (fun _ => D.int 1) (.pr [.int j, .int z]) = none := by
            unfold badG
            rw [show chP (.pr [.int j, .int z]) = true by show (decide (0 ≤ j) && decide (j ≤ z - 1)) = true; rw [decide_eq_true hj0, decide_eq_true (by omega : j ≤ z - 1)]; rfl]; rfl
          rw [e] at hk2
          exact hk2
    conv => whnf
    (try dsimp only [putOuts, wipeD, List.set_cons_zero, List.set_cons_succ, List.cons_append, List.nil_append, List.replicate_succ, List.replicate_zero])
    rw [bad_nil, all_ch]
    exact hk
  · cases hn with
    | _ =>
      refine ⟨⟨rfl, rfl⟩, ?_⟩
      conv => whnf
      (try dsimp only [putOuts, wipeD, List.set_cons_zero, List.set_cons_succ, List.cons_append, List.nil_append, List.replicate_succ, List.replicate_zero])
      refine ⟨fun _ => ?_, fun h => nomatch h⟩
      conv => whnf
      (try dsimp only [putOuts, wipeD, List.set_cons_zero, List.set_cons_succ, List.cons_append, List.nil_append, List.replicate_succ, List.replicate_zero])
      refine ⟨fun _ => ?_, fun h => nomatch h⟩
      exact hk
end K36

set_option Elab.async false
set_option linter.all false
set_option maxRecDepth 100000
set_option maxHeartbeats 1000000
namespace K36
open PySem PySem.Spec PyProof.Rows L2 MP
theorem ite_any {T : List FnS} {G : List D} {np : Nat} {a b : PX} {σ : List D} {K : RV → List D → Prop} {x : OutK} {t : Bool} (P : RV → List D → Prop)
    (h : ∀ r σ', P r σ' → K r σ') (ha : t = true → ∀ K' : RV → List D → Prop, (∀ r σ', P r σ' → K' r σ') → wpX T G np a σ K' x) (hb : ∀ K' : RV → List D → Prop, (∀ r σ', P r σ' → K' r σ') → wpX T G np b σ K' x) :
    (t = true → wpX T G np a σ K x) ∧ (t = false → wpX T G np b σ K x) := ⟨fun e => ha e K h, fun _ => hb K h⟩
theorem ite_one {T : List FnS} {G : List D} {np : Nat} {a b : PX} {σ : List D} {K : RV → List D → Prop} {x : OutK} {t : Bool} {r : RV}
    (h : K r σ) (ha : ∀ K' : RV → List D → Prop, K' r σ → wpX T G np a σ K' x) (hb : ∀ K' : RV → List D → Prop, K' r σ → wpX T G np b σ K' x) :
    (t = true → wpX T G np a σ K x) ∧ (t = false → wpX T G np b σ K x) := ⟨fun _ => ha K h, fun _ => hb K h⟩
theorem repr_bool {b : Bool} : py (.bl b) = some (.bool b) ∧ PyData.showable (.bool b) = true ∧ PyData.depth (.bool b) ≤ 60 ∧ (PyData.shown (.bool b)).length ≤ big := by
  refine ⟨rfl, rfl, Nat.zero_le _, ?_⟩
  cases b <;> decide
theorem storeK_im {np i : Nat} {v : D} {σ : List D} {k : List D → Prop} (hi : v.im = true) (h : setK np i v σ k) : storeK np i v σ k := by
  cases v <;> first | (cases hi; done) | exact h
theorem law_ok {f0 f1 f2 f3 f4 f5 f6 f7 f8 f9 f10 f11 f12 f13 f14 f15 f16 f17 f18 f19 f20 f21 f22 f23 f24 f25 f26 f27 f28 f29 : FnS} (h0 : DeckOk f0) (hd : DrawOk f1) (hb : BarOk f6) (hp : ProbOk f7) (hbe : BentOk f9) (hgr : GreatOk f10)
    (hip : ProbG f20) (hib : IsBarG f21) (hic : IsChG f24) (lip : LProbG f28) (lib : LBarG f27) (lic : LChG f29) : ∀ ns : List Int, ns.length ≤ 63 →
    (wpF [f0, f1, f2, f3, f4, f5, f6, f7, f8, f9, f10, f11, f12, f13, f14, f15, f16, f17, f18, f19, f20, f21, f22, f23, f24, f25, f26, f27, f28, f29] gloD 1 10 B30) [scriptD ns] (fun d _ => d = .bl true) noX := by
  intro ns hns
  have eb : big = 16777216 := rfl
  refine ⟨⟨rfl, rfl⟩, ?_⟩
  conv => whnf
  (try dsimp only [putOuts, wipeD, List.set_cons_zero, List.set_cons_succ, List.cons_append, List.nil_append, List.replicate_succ, List.replicate_zero])
  refine h0 ns _ _ hns fun L m t hL => ?_
  conv => whnf
  (try dsimp only [putOuts, wipeD, List.set_cons_zero, List.set_cons_succ, List.cons_append, List.nil_append, List.replicate_succ, List.replicate_zero])
  refine ⟨⟨by decide, by decide, by decide, by decide⟩, rfl, ?_⟩
  refine forL_of (fun _ σ => ∃ (L' : List Int) (m' t' : Int) (d2 d3 d4 d5 d6 d7 d8 d9 d10 : D), σ = [scriptD ns, deck L' m' t', d2, d3, d4, d5, d6, d7, d8, d9, d10] ∧ L'.length ≤ 63) ⟨_, _, _, _, _, _, _, _, _, _, _, _, rfl, hL⟩ (fun _ _ _ => trivial) (fun i d σ k2 hd2 hi hk2 => ?_) fun σ hi => ?_
  · obtain ⟨L, m, t, d2, d3, d4, d5, d6, d7, d8, d9, d10, rfl, hL⟩ := hi
    obtain ⟨hi2, rfl⟩ := intsUp_get hd2
    conv => whnf
    (try dsimp only [putOuts, wipeD, List.set_cons_zero, List.set_cons_succ, List.cons_append, List.nil_append, List.replicate_succ, List.replicate_zero])
    refine hp L m t 6 _ _ hL (by decide) (by decide) fun zs bs L1 m1 t1 hpr hL1 => ?_
    have hzl := hpr.1
    have hzs := hpr.2.1
    have hbl := hpr.2.2.2.1
    have hpt := tv_prob hpr hbl
    conv => whnf
    (try dsimp only [putOuts, wipeD, List.set_cons_zero, List.set_cons_succ, List.cons_append, List.nil_append, List.replicate_succ, List.replicate_zero])
    refine ⟨⟨by decide, by decide, by decide, by decide⟩, rfl, ?_⟩
    refine forL_of (fun _ σ => ∃ (L' : List Int) (m' t' : Int) (d5 d6 d7 d8 d9 d10 : D), σ = [scriptD ns, deck L' m' t', .int (0 + i), problemD zs bs, tupI zs, d5, d6, d7, d8, d9, d10] ∧ L'.length ≤ 63) ⟨_, _, _, _, _, _, _, _, _, rfl, hL1⟩ (fun _ _ _ => trivial) (fun j d σ k3 hd3 hj hk3 => ?_) fun σ hj => ?_
    · obtain ⟨L2, m2, t2, d5, d6, d7, d8, d9, d10, rfl, hL2⟩ := hj
      obtain ⟨hj2, rfl⟩ := intsUp_get hd3
      conv => whnf
      (try dsimp only [putOuts, wipeD, List.set_cons_zero, List.set_cons_succ, List.cons_append, List.nil_append, List.replicate_succ, List.replicate_zero])
      refine ite_any (fun r σ' => ∃ (v : D) (L' : List Int) (m' t' : Int), r = .val v ∧ pv 9 v ∧ L'.length ≤ 63 ∧ σ' = [scriptD ns, deck L' m' t', .int (0 + i), problemD zs bs, tupI zs, .int (0 + j), d6, d7, d8, d9, d10]) ?_ (fun _ K' h => ?_) (fun K' h => ?_)
      rotate_left
      · conv => whnf
        (try dsimp only [putOuts, wipeD, List.set_cons_zero, List.set_cons_succ, List.cons_append, List.nil_append, List.replicate_succ, List.replicate_zero])
        refine hbe 5 (by decide) L2 m2 t2 _ _ _ hL2 hpt fun d L3 m3 t3 hd3 hL3 => ?_
        exact h _ _ ⟨d, L3, m3, t3, rfl, hd3.p, hL3, rfl⟩
      · exact h _ _ ⟨_, L2, m2, t2, rfl, pv_le (tv_pv hpt) 4, hL2, rfl⟩
      rintro _ _ ⟨v0, L3, m3, t3, rfl, hv0, hL3, rfl⟩
      have hi0 := pv_im hv0
      show storeK 1 6 v0 _ _
      refine storeK_im hi0 ?_
      conv => whnf
      (try dsimp only [putOuts, wipeD, List.set_cons_zero, List.set_cons_succ, List.cons_append, List.nil_append, List.replicate_succ, List.replicate_zero])
      refine ite_any (fun r σ' => ∃ (v : D) (L' : List Int) (m' t' : Int), r = .val v ∧ pv 9 v ∧ L'.length ≤ 63 ∧ σ' = [scriptD ns, deck L' m' t', .int (0 + i), problemD zs bs, tupI zs, .int (0 + j), v0, d7, d8, d9, d10]) ?_ (fun _ K' h => ?_) (fun K' h => ?_)
      rotate_left
      · conv => whnf
        (try dsimp only [putOuts, wipeD, List.set_cons_zero, List.set_cons_succ, List.cons_append, List.nil_append, List.replicate_succ, List.replicate_zero])
        refine hgr L3 m3 t3 zs _ _ hL3 hzl hzs fun d L4 m4 t4 hd4 hL4 => ?_
        exact h _ _ ⟨d, L4, m4, t4, rfl, pv_le hd4 4, hL4, rfl⟩
      · conv => whnf
        (try dsimp only [putOuts, wipeD, List.set_cons_zero, List.set_cons_succ, List.cons_append, List.nil_append, List.replicate_succ, List.replicate_zero])
        rw [hi0]
        exact h _ _ ⟨v0, L3, m3, t3, rfl, hv0, hL3, rfl⟩
      rintro _ _ ⟨v, L4, m4, t4, rfl, hv, hL4, rfl⟩
      clear hv0 hi0
      have hi := pv_im hv
      show storeK 1 6 v _ _
      refine storeK_im hi ?_
      conv => whnf
      (try dsimp only [putOuts, wipeD, List.set_cons_zero, List.set_cons_succ, List.cons_append, List.nil_append, List.replicate_succ, List.replicate_zero])
      refine ⟨by decide, ?_⟩
      conv => whnf
      (try dsimp only [putOuts, wipeD, List.set_cons_zero, List.set_cons_succ, List.cons_append, List.nil_append, List.replicate_succ, List.replicate_zero])
      refine ite_one (r := .val (.bl (probB v))) ?_ (fun K' h => ?_) (fun K' h => ?_)
      rotate_left
      · conv => whnf
        (try dsimp only [putOuts, wipeD, List.set_cons_zero, List.set_cons_succ, List.cons_append, List.nil_append, List.replicate_succ, List.replicate_zero])
        rw [hi]
        conv => whnf
        (try dsimp only [putOuts, wipeD, List.set_cons_zero, List.set_cons_succ, List.cons_append, List.nil_append, List.replicate_succ, List.replicate_zero])
        refine hip 9 v _ _ hv ?_
        exact h
      · conv => whnf
        (try dsimp only [putOuts, wipeD, List.set_cons_zero, List.set_cons_succ, List.cons_append, List.nil_append, List.replicate_succ, List.replicate_zero])
        rw [hi]
        conv => whnf
        (try dsimp only [putOuts, wipeD, List.set_cons_zero, List.set_cons_succ, List.cons_append, List.nil_append, List.replicate_succ, List.replicate_zero])
        refine hip 9 v _ _ hv ?_
        exact h
      conv => whnf
      (try dsimp only [putOuts, wipeD, List.set_cons_zero, List.set_cons_succ, List.cons_append, List.nil_append, List.replicate_succ, List.replicate_zero])
      refine ⟨_, repr_bool.1, repr_bool.2.1, repr_bool.2.2.1, repr_bool.2.2.2, ?_⟩
      conv => whnf
      (try dsimp only [putOuts, wipeD, List.set_cons_zero, List.set_cons_succ, List.cons_append, List.nil_append, List.replicate_succ, List.replicate_zero])
      rw [hi]
      conv => whnf
      (try dsimp only [putOuts, wipeD, List.set_cons_zero, List.set_cons_succ, List.cons_append, List.nil_append, List.replicate_succ, List.replicate_zero])
      refine lip 9 v _ _ hv ?_
      conv => whnf
      (try dsimp only [putOuts, wipeD, List.set_cons_zero, List.set_cons_succ, List.cons_append, List.nil_append, List.replicate_succ, List.replicate_zero])
      refine ⟨_, repr_bool.1, repr_bool.2.1, repr_bool.2.2.1, repr_bool.2.2.2, ?_⟩
      conv => whnf
      (try dsimp only [putOuts, wipeD, List.set_cons_zero, List.set_cons_succ, List.cons_append, List.nil_append, List.replicate_succ, List.replicate_zero])
      refine ⟨fun h => absurd h (by simp), fun _ => ?_⟩
      conv => whnf
      (try dsimp only [putOuts, wipeD, List.set_cons_zero, List.set_cons_succ, List.cons_append, List.nil_append, List.replicate_succ, List.replicate_zero])
      refine hb L4 m4 t4 6 zs _ _ hL4 hzl hzs (by decide) (by decide) fun b L5 m5 t5 hb1 hb2 hL5 => ?_
      have hbt := tv_bar hzl hzs hb1 hb2
      conv => whnf
      (try dsimp only [putOuts, wipeD, List.set_cons_zero, List.set_cons_succ, List.cons_append, List.nil_append, List.replicate_succ, List.replicate_zero])
      refine hd L5 m5 t5 3 _ _ hL5 (by decide) (by decide) fun r L6 m6 t6 _ _ hL6 => ?_
      conv => whnf
      (try dsimp only [putOuts, wipeD, List.set_cons_zero, List.set_cons_succ, List.cons_append, List.nil_append, List.replicate_succ, List.replicate_zero])
      refine ite_any (fun r σ' => ∃ (w : D) (L' : List Int) (m' t' : Int), r = .val w ∧ pv 9 w ∧ L'.length ≤ 63 ∧ σ' = [scriptD ns, deck L' m' t', .int (0 + i), problemD zs bs, tupI zs, .int (0 + j), v, .bl (probB v), barD b, d9, d10]) ?_ (fun _ K' h => ?_) (fun K' h => ?_)
      rotate_left
      · conv => whnf
        (try dsimp only [putOuts, wipeD, List.set_cons_zero, List.set_cons_succ, List.cons_append, List.nil_append, List.replicate_succ, List.replicate_zero])
        refine hbe 3 (by decide) L6 m6 t6 _ _ _ hL6 hbt fun d L7 m7 t7 hd7 hL7 => ?_
        exact h _ _ ⟨d, L7, m7, t7, rfl, pv_le hd7.p 2, hL7, rfl⟩
      · exact h _ _ ⟨_, L6, m6, t6, rfl, pv_le (tv_pv hbt) 6, hL6, rfl⟩
      rintro _ _ ⟨w, L7, m7, t7, rfl, hw, hL7, rfl⟩
      have iw := pv_im hw
      show storeK 1 8 w _ _
      refine storeK_im iw ?_
      conv => whnf
      (try dsimp only [putOuts, wipeD, List.set_cons_zero, List.set_cons_succ, List.cons_append, List.nil_append, List.replicate_succ, List.replicate_zero])
      refine ⟨by decide, ?_⟩
      conv => whnf
      (try dsimp only [putOuts, wipeD, List.set_cons_zero, List.set_cons_succ, List.cons_append, List.nil_append, List.replicate_succ, List.replicate_zero])
      refine ite_one (r := .val (.bl (barB zs w))) ?_ (fun K' h => ?_) (fun K' h => ?_)
      rotate_left
      · conv => whnf
        (try dsimp only [putOuts, wipeD, List.set_cons_zero, List.set_cons_succ, List.cons_append, List.nil_append, List.replicate_succ, List.replicate_zero])
        rw [iw]
        conv => whnf
        (try dsimp only [putOuts, wipeD, List.set_cons_zero, List.set_cons_succ, List.cons_append, List.nil_append, List.replicate_succ, List.replicate_zero])
        refine hib 9 zs w _ _ hzl hzs hw ?_
        exact h
      · conv => whnf
        (try dsimp only [putOuts, wipeD, List.set_cons_zero, List.set_cons_succ, List.cons_append, List.nil_append, List.replicate_succ, List.replicate_zero])
        rw [iw]
        conv => whnf
        (try dsimp only [putOuts, wipeD, List.set_cons_zero, List.set_cons_succ, List.cons_append, List.nil_append, List.replicate_succ, List.replicate_zero])
        refine hib 9 zs w _ _ hzl hzs hw ?_
        exact h
      conv => whnf
      (try dsimp only [putOuts, wipeD, List.set_cons_zero, List.set_cons_succ, List.cons_append, List.nil_append, List.replicate_succ, List.replicate_zero])
      refine ⟨_, repr_bool.1, repr_bool.2.1, repr_bool.2.2.1, repr_bool.2.2.2, ?_⟩
      conv => whnf
      (try dsimp only [putOuts, wipeD, List.set_cons_zero, List.set_cons_succ, List.cons_append, List.nil_append, List.replicate_succ, List.replicate_zero])
      rw [iw]
      conv => whnf
      (try dsimp only [putOuts, wipeD, List.set_cons_zero, List.set_cons_succ, List.cons_append, List.nil_append, List.replicate_succ, List.replicate_zero])
      refine lib 9 zs w _ _ (by omega) hw ?_
      conv => whnf
      (try dsimp only [putOuts, wipeD, List.set_cons_zero, List.set_cons_succ, List.cons_append, List.nil_append, List.replicate_succ, List.replicate_zero])
      refine ⟨_, repr_bool.1, repr_bool.2.1, repr_bool.2.2.1, repr_bool.2.2.2, ?_⟩
      conv => whnf
      (try dsimp only [putOuts, wipeD, List.set_cons_zero, List.set_cons_succ, List.cons_append, List.nil_append, List.replicate_succ, List.replicate_zero])
      refine ⟨fun h => absurd h (by simp), fun _ => ?_⟩
      conv => whnf
      (try dsimp only [putOuts, wipeD, List.set_cons_zero, List.set_cons_succ, List.cons_append, List.nil_append, List.replicate_succ, List.replicate_zero])
      refine ⟨rfl, ?_⟩
      refine forC_of (fun n acc σ => ∃ (cs L' : List Int) (m' t' : Int), acc = intsD cs ∧ cs.length ≤ n ∧ n ≤ zs.length ∧ (∀ c ∈ cs, c.natAbs < 10 ^ 41) ∧ L'.length ≤ 63 ∧ σ = [scriptD ns, deck L' m' t', .int (0 + i), problemD zs bs, tupI zs, .int (0 + j), v, .bl (barB zs w), w, d9, .bot]) ⟨[], L7, m7, t7, rfl, Nat.le_refl _, Nat.zero_le _, (fun c h => nomatch h), hL7, rfl⟩ (fun _ _ _ _ => trivial) (fun n d acc σ k4 hd4 hn h1 h2 => ?_) (fun n acc σ hn hI => ?_) fun acc σ hI => ?_
      · obtain ⟨cs, L8, m8, t8, rfl, hcl, hnz, hcs, hL8, rfl⟩ := hn
        rw [intsD, List.getElem?_map] at hd4
        obtain ⟨z, hz, rfl⟩ := Option.map_eq_some_iff.mp hd4
        have hz0 := hzs z (List.mem_of_getElem? hz)
        have hz1 := hz0.1
        have hz2 := hz0.2
        have hnl := (List.getElem?_eq_some_iff.mp hz).1
        conv => whnf
        (try dsimp only [putOuts, wipeD, List.set_cons_zero, List.set_cons_succ, List.cons_append, List.nil_append, List.replicate_succ, List.replicate_zero])
        refine ⟨fun _ => ?_, fun h => nomatch h⟩
        conv => whnf
        (try dsimp only [putOuts, wipeD, List.set_cons_zero, List.set_cons_succ, List.cons_append, List.nil_append, List.replicate_succ, List.replicate_zero])
        refine hd L8 m8 t8 9 _ _ hL8 (by decide) (by decide) fun r2 L9 m9 t9 _ _ hL9 => ?_
        have hone : 0 ≤ (if decide (r2 = 0) = true then (1 : Int) else 0) ∧ (if decide (r2 = 0) = true then (1 : Int) else 0) ≤ 1 := by split <;> decide
        conv => whnf
        (try dsimp only [putOuts, wipeD, List.set_cons_zero, List.set_cons_succ, List.cons_append, List.nil_append, List.replicate_succ, List.replicate_zero])
        refine hd L9 m9 t9 _ _ _ hL9 (by omega) (by omega) fun c L10 m10 t10 hc1 hc2 hL10 => ?_
        refine h1 _ _ ⟨cs ++ [c], L10, m10, t10, by rw [intsD, intsD, List.map_append]; rfl, by rw [List.length_append]; show cs.length + 1 ≤ _; omega, by omega, fun y hy => ?_, hL10, rfl⟩
        rcases List.mem_append.mp hy with h | h
        · exact hcs y h
        · have : y = c := by simpa using h
          subst this; exact small41 (by omega)
      · obtain ⟨cs, L8, m8, t8, rfl, hcl, hnz, hcs, hL8, rfl⟩ := hI
        rw [intsD, List.length_map]
        omega
      obtain ⟨cs, L8, m8, t8, rfl, hcl, hnz, hcs, hL8, rfl⟩ := hI
      have hct : tv 1 (tupI cs) := tv_tupI (n := 0) (by omega) hcs
      conv => whnf
      (try dsimp only [putOuts, wipeD, List.set_cons_zero, List.set_cons_succ, List.cons_append, List.nil_append, List.replicate_succ, List.replicate_zero])
      refine ⟨imAll_ints, ?_⟩
      conv => whnf
      (try dsimp only [putOuts, wipeD, List.set_cons_zero, List.set_cons_succ, List.cons_append, List.nil_append, List.replicate_succ, List.replicate_zero])
      refine hd L8 m8 t8 2 _ _ hL8 (by decide) (by decide) fun r L9 m9 t9 _ _ hL9 => ?_
      conv => whnf
      (try dsimp only [putOuts, wipeD, List.set_cons_zero, List.set_cons_succ, List.cons_append, List.nil_append, List.replicate_succ, List.replicate_zero])
      refine ite_any (fun r σ' => ∃ (u : D) (L' : List Int) (m' t' : Int), r = .val u ∧ pv 9 u ∧ L'.length ≤ 63 ∧ σ' = [scriptD ns, deck L' m' t', .int (0 + i), problemD zs bs, tupI zs, .int (0 + j), v, .bl (barB zs w), w, tupI cs, .bot]) ?_ (fun _ K' h => ?_) (fun K' h => ?_)
      rotate_left
      · conv => whnf
        (try dsimp only [putOuts, wipeD, List.set_cons_zero, List.set_cons_succ, List.cons_append, List.nil_append, List.replicate_succ, List.replicate_zero])
        refine hbe 1 (by decide) L9 m9 t9 _ _ _ hL9 hct fun d L10 m10 t10 hd10 hL10 => ?_
        exact h _ _ ⟨d, L10, m10, t10, rfl, pv_le hd10.p 4, hL10, rfl⟩
      · exact h _ _ ⟨_, L9, m9, t9, rfl, pv_le (tv_pv hct) 8, hL9, rfl⟩
      rintro _ _ ⟨u, L10, m10, t10, rfl, hu, hL10, rfl⟩
      have iu := pv_im hu
      show storeK 1 9 u _ _
      refine storeK_im iu ?_
      conv => whnf
      (try dsimp only [putOuts, wipeD, List.set_cons_zero, List.set_cons_succ, List.cons_append, List.nil_append, List.replicate_succ, List.replicate_zero])
      refine ⟨by decide, ?_⟩
      conv => whnf
      (try dsimp only [putOuts, wipeD, List.set_cons_zero, List.set_cons_succ, List.cons_append, List.nil_append, List.replicate_succ, List.replicate_zero])
      refine ite_one (r := .val (.bl (choiceB zs u))) ?_ (fun K' h => ?_) (fun K' h => ?_)
      rotate_left
      · conv => whnf
        (try dsimp only [putOuts, wipeD, List.set_cons_zero, List.set_cons_succ, List.cons_append, List.nil_append, List.replicate_succ, List.replicate_zero])
        rw [iu]
        conv => whnf
        (try dsimp only [putOuts, wipeD, List.set_cons_zero, List.set_cons_succ, List.cons_append, List.nil_append, List.replicate_succ, List.replicate_zero])
        refine hic 9 zs bs u _ _ hpr hbl hu ?_
        exact h
      · conv => whnf
        (try dsimp only [putOuts, wipeD, List.set_cons_zero, List.set_cons_succ, List.cons_append, List.nil_append, List.replicate_succ, List.replicate_zero])
        rw [iu]
        conv => whnf
        (try dsimp only [putOuts, wipeD, List.set_cons_zero, List.set_cons_succ, List.cons_append, List.nil_append, List.replicate_succ, List.replicate_zero])
        refine hic 9 zs bs u _ _ hpr hbl hu ?_
        exact h
      conv => whnf
      (try dsimp only [putOuts, wipeD, List.set_cons_zero, List.set_cons_succ, List.cons_append, List.nil_append, List.replicate_succ, List.replicate_zero])
      refine ⟨_, repr_bool.1, repr_bool.2.1, repr_bool.2.2.1, repr_bool.2.2.2, ?_⟩
      conv => whnf
      (try dsimp only [putOuts, wipeD, List.set_cons_zero, List.set_cons_succ, List.cons_append, List.nil_append, List.replicate_succ, List.replicate_zero])
      rw [iu]
      conv => whnf
      (try dsimp only [putOuts, wipeD, List.set_cons_zero, List.set_cons_succ, List.cons_append, List.nil_append, List.replicate_succ, List.replicate_zero])
      refine lic 9 zs u _ _ (by omega) hu ?_
      conv => whnf
      (try dsimp only [putOuts, wipeD, List.set_cons_zero, List.set_cons_succ, List.cons_append, List.nil_append, List.replicate_succ, List.replicate_zero])
      refine ⟨_, repr_bool.1, repr_bool.2.1, repr_bool.2.2.1, repr_bool.2.2.2, ?_⟩
      conv => whnf
      (try dsimp only [putOuts, wipeD, List.set_cons_zero, List.set_cons_succ, List.cons_append, List.nil_append, List.replicate_succ, List.replicate_zero])
      refine ⟨fun h => absurd h (by simp), fun _ => ?_⟩
      exact hk3 _ ⟨_, _, _, _, _, _, _, _, _, rfl, hL10⟩
    · obtain ⟨L2, m2, t2, d5, d6, d7, d8, d9, d10, rfl, hL2⟩ := hj
      exact hk2 _ ⟨_, _, _, _, _, _, _, _, _, _, _, _, rfl, hL2⟩
  · obtain ⟨L', m', t', d2, d3, d4, d5, d6, d7, d8, d9, d10, rfl, hL'⟩ := hi
    exact rfl
theorem plain : ∀ ns : List Int, ns.length ≤ 63 → F30 [scriptD ns] (fun d _ => d = .bl true) noX := by
  have d1 : DrawOk F1 := draw_ok (f0 := F0)
  have p2 : PickOk F2 := pick_ok (f0 := F0) (f1 := F1) d1
  have pl : PickLOk F2 := pickL_ok (f0 := F0) (f1 := F1) d1
  have z3 : SizesOk F3 := sizes_ok (f0 := F0) (f1 := F1) (f2 := F2) d1 p2
  have s4 : ShufOk F4 := shuf_ok (f0 := F0) (f1 := F1) (f2 := F2) (f3 := F3) d1
  have t5 : TermOk F5 := term_ok (f0 := F0) (f1 := F1) (f2 := F2) (f3 := F3) (f4 := F4) d1 s4
  have b6 : BarOk F6 := bar_ok (f0 := F0) (f1 := F1) (f2 := F2) (f3 := F3) (f4 := F4) (f5 := F5) p2 s4 t5
  have p7 : ProbOk F7 := prob_ok (f0 := F0) (f1 := F1) (f2 := F2) (f3 := F3) (f4 := F4) (f5 := F5) (f6 := F6) d1 p2 z3 b6
  have o8 : OddOk F8 := odd_ok (f0 := F0) (f1 := F1) (f2 := F2) (f3 := F3) (f4 := F4) (f5 := F5) (f6 := F6) (f7 := F7) pl
  have b9 : BentOk F9 := bent_ok (f0 := F0) (f1 := F1) (f2 := F2) (f3 := F3) (f4 := F4) (f5 := F5) (f6 := F6) (f7 := F7) (f8 := F8) d1 o8
  have g10 : GreatOk F10 := great_ok (f0 := F0) (f1 := F1) (f2 := F2) (f3 := F3) (f4 := F4) (f5 := F5) (f6 := F6) (f7 := F7) (f8 := F8) (f9 := F9) d1 p2 pl
  have r11 : RowG F11 := rowG_ok (f0 := F0) (f1 := F1) (f2 := F2) (f3 := F3) (f4 := F4) (f5 := F5) (f6 := F6) (f7 := F7) (f8 := F8) (f9 := F9) (f10 := F10)
  have i12 : IntG F12 := intG_ok (f0 := F0) (f1 := F1) (f2 := F2) (f3 := F3) (f4 := F4) (f5 := F5) (f6 := F6) (f7 := F7) (f8 := F8) (f9 := F9) (f10 := F10) (f11 := F11)
  have b13 : BetG F13 := betG_ok (f0 := F0) (f1 := F1) (f2 := F2) (f3 := F3) (f4 := F4) (f5 := F5) (f6 := F6) (f7 := F7) (f8 := F8) (f9 := F9) (f10 := F10) (f11 := F11) (f12 := F12) i12
  have c13 : BetS F13 := betS_ok (f0 := F0) (f1 := F1) (f2 := F2) (f3 := F3) (f4 := F4) (f5 := F5) (f6 := F6) (f7 := F7) (f8 := F8) (f9 := F9) (f10 := F10) (f11 := F11) (f12 := F12) i12
  have s14 : SzG F14 := szG_ok (f0 := F0) (f1 := F1) (f2 := F2) (f3 := F3) (f4 := F4) (f5 := F5) (f6 := F6) (f7 := F7) (f8 := F8) (f9 := F9) (f10 := F10) (f11 := F11) (f12 := F12) (f13 := F13) c13
  have rt15 : RiseG F15 := riseG_ok (f0 := F0) (f1 := F1) (f2 := F2) (f3 := F3) (f4 := F4) (f5 := F5) (f6 := F6) (f7 := F7) (f8 := F8) (f9 := F9) (f10 := F10) (f11 := F11) (f12 := F12) (f13 := F13) (f14 := F14)
  have rl15 : RiseGL F15 := riseGL_ok (f0 := F0) (f1 := F1) (f2 := F2) (f3 := F3) (f4 := F4) (f5 := F5) (f6 := F6) (f7 := F7) (f8 := F8) (f9 := F9) (f10 := F10) (f11 := F11) (f12 := F12) (f13 := F13) (f14 := F14)
  have a16 : AreG F16 := areG_ok (f0 := F0) (f1 := F1) (f2 := F2) (f3 := F3) (f4 := F4) (f5 := F5) (f6 := F6) (f7 := F7) (f8 := F8) (f9 := F9) (f10 := F10) (f11 := F11) (f12 := F12) (f13 := F13) (f14 := F14) (f15 := F15) b13
  have t17 : TermG F17 := termG_ok (f0 := F0) (f1 := F1) (f2 := F2) (f3 := F3) (f4 := F4) (f5 := F5) (f6 := F6) (f7 := F7) (f8 := F8) (f9 := F9) (f10 := F10) (f11 := F11) (f12 := F12) (f13 := F13) (f14 := F14) (f15 := F15) (f16 := F16) r11 b13 rt15 a16
  have b18 : BarG F18 := barG_ok (f0 := F0) (f1 := F1) (f2 := F2) (f3 := F3) (f4 := F4) (f5 := F5) (f6 := F6) (f7 := F7) (f8 := F8) (f9 := F9) (f10 := F10) (f11 := F11) (f12 := F12) (f13 := F13) (f14 := F14) (f15 := F15) (f16 := F16) (f17 := F17) rl15 t17
  have p19 : ProbG F19 := probG_ok (f0 := F0) (f1 := F1) (f2 := F2) (f3 := F3) (f4 := F4) (f5 := F5) (f6 := F6) (f7 := F7) (f8 := F8) (f9 := F9) (f10 := F10) (f11 := F11) (f12 := F12) (f13 := F13) (f14 := F14) (f15 := F15) (f16 := F16) (f17 := F17) (f18 := F18) r11 s14 b18
  have p20 : ProbG F20 := isProb_ok (f0 := F0) (f1 := F1) (f2 := F2) (f3 := F3) (f4 := F4) (f5 := F5) (f6 := F6) (f7 := F7) (f8 := F8) (f9 := F9) (f10 := F10) (f11 := F11) (f12 := F12) (f13 := F13) (f14 := F14) (f15 := F15) (f16 := F16) (f17 := F17) (f18 := F18) (f19 := F19) p19
  have b21 : IsBarG F21 := isBarG_ok (f0 := F0) (f1 := F1) (f2 := F2) (f3 := F3) (f4 := F4) (f5 := F5) (f6 := F6) (f7 := F7) (f8 := F8) (f9 := F9) (f10 := F10) (f11 := F11) (f12 := F12) (f13 := F13) (f14 := F14) (f15 := F15) (f16 := F16) (f17 := F17) (f18 := F18) (f19 := F19) (f20 := F20) s14 b18
  have n22 : NeedG F22 := needG_ok (f0 := F0) (f1 := F1) (f2 := F2) (f3 := F3) (f4 := F4) (f5 := F5) (f6 := F6) (f7 := F7) (f8 := F8) (f9 := F9) (f10 := F10) (f11 := F11) (f12 := F12) (f13 := F13) (f14 := F14) (f15 := F15) (f16 := F16) (f17 := F17) (f18 := F18) (f19 := F19) (f20 := F20) (f21 := F21) p19
  have c23 : ChG F23 := chG_ok (f0 := F0) (f1 := F1) (f2 := F2) (f3 := F3) (f4 := F4) (f5 := F5) (f6 := F6) (f7 := F7) (f8 := F8) (f9 := F9) (f10 := F10) (f11 := F11) (f12 := F12) (f13 := F13) (f14 := F14) (f15 := F15) (f16 := F16) (f17 := F17) (f18 := F18) (f19 := F19) (f20 := F20) (f21 := F21) (f22 := F22) r11 b13
  have c24 : IsChG F24 := isChG_ok (f0 := F0) (f1 := F1) (f2 := F2) (f3 := F3) (f4 := F4) (f5 := F5) (f6 := F6) (f7 := F7) (f8 := F8) (f9 := F9) (f10 := F10) (f11 := F11) (f12 := F12) (f13 := F13) (f14 := F14) (f15 := F15) (f16 := F16) (f17 := F17) (f18 := F18) (f19 := F19) (f20 := F20) (f21 := F21) (f22 := F22) (f23 := F23) n22 c23
  have n25 : NumG F25 := numG_ok (f0 := F0) (f1 := F1) (f2 := F2) (f3 := F3) (f4 := F4) (f5 := F5) (f6 := F6) (f7 := F7) (f8 := F8) (f9 := F9) (f10 := F10) (f11 := F11) (f12 := F12) (f13 := F13) (f14 := F14) (f15 := F15) (f16 := F16) (f17 := F17) (f18 := F18) (f19 := F19) (f20 := F20) (f21 := F21) (f22 := F22) (f23 := F23) (f24 := F24)
  have s26 : LSzG F26 := lszG_ok (f0 := F0) (f1 := F1) (f2 := F2) (f3 := F3) (f4 := F4) (f5 := F5) (f6 := F6) (f7 := F7) (f8 := F8) (f9 := F9) (f10 := F10) (f11 := F11) (f12 := F12) (f13 := F13) (f14 := F14) (f15 := F15) (f16 := F16) (f17 := F17) (f18 := F18) (f19 := F19) (f20 := F20) (f21 := F21) (f22 := F22) (f23 := F23) (f24 := F24) (f25 := F25) n25
  have b27 : LBarG F27 := lbarG_ok (f0 := F0) (f1 := F1) (f2 := F2) (f3 := F3) (f4 := F4) (f5 := F5) (f6 := F6) (f7 := F7) (f8 := F8) (f9 := F9) (f10 := F10) (f11 := F11) (f12 := F12) (f13 := F13) (f14 := F14) (f15 := F15) (f16 := F16) (f17 := F17) (f18 := F18) (f19 := F19) (f20 := F20) (f21 := F21) (f22 := F22) (f23 := F23) (f24 := F24) (f25 := F25) (f26 := F26) n25
  have p28 : LProbG F28 := lprobG_ok (f0 := F0) (f1 := F1) (f2 := F2) (f3 := F3) (f4 := F4) (f5 := F5) (f6 := F6) (f7 := F7) (f8 := F8) (f9 := F9) (f10 := F10) (f11 := F11) (f12 := F12) (f13 := F13) (f14 := F14) (f15 := F15) (f16 := F16) (f17 := F17) (f18 := F18) (f19 := F19) (f20 := F20) (f21 := F21) (f22 := F22) (f23 := F23) (f24 := F24) (f25 := F25) (f26 := F26) (f27 := F27) s26 b27
  have c29 : LChG F29 := lchG_ok (f0 := F0) (f1 := F1) (f2 := F2) (f3 := F3) (f4 := F4) (f5 := F5) (f6 := F6) (f7 := F7) (f8 := F8) (f9 := F9) (f10 := F10) (f11 := F11) (f12 := F12) (f13 := F13) (f14 := F14) (f15 := F15) (f16 := F16) (f17 := F17) (f18 := F18) (f19 := F19) (f20 := F20) (f21 := F21) (f22 := F22) (f23 := F23) (f24 := F24) (f25 := F25) (f26 := F26) (f27 := F27) (f28 := F28) n25
  exact law_ok (f0 := F0) (f1 := F1) (f2 := F2) (f3 := F3) (f4 := F4) (f5 := F5) (f6 := F6) (f7 := F7) (f8 := F8) (f9 := F9) (f10 := F10) (f11 := F11) (f12 := F12) (f13 := F13) (f14 := F14) (f15 := F15) (f16 := F16) (f17 := F17) (f18 := F18) (f19 := F19) (f20 := F20) (f21 := F21) (f22 := F22) (f23 := F23) (f24 := F24) (f25 := F25) (f26 := F26) (f27 := F27) (f28 := F28) (f29 := F29) deck_ok d1 b6 p7 b9 g10 p20 b21 c24 p28 b27 c29
end K36

set_option Elab.async false
set_option linter.all false
set_option maxRecDepth 100000
set_option maxHeartbeats 1000000
namespace K36
open PySem PySem.Spec PyProof.Rows L2 MP
theorem fin {l : W.OpenLaw} {n : Nat} {w : World} {K : W.Frag} {mg : Str → Option Value}  {h : Heap} {fa : Addr} (X : K.In h) (hn : h.Ns mainGlobals mg) (hfa : mg "law" = some (.ref fa)) (plain : ∀ ns : List Int, ns.length ≤ n → F30 [scriptD ns] (fun d _ => d = .bl true) noX)
    {f0 : Addr} {oc0 kV0 dc0 pm0 cd0 ct0 : Value} {od0 an0 : Option Addr} {sl0 : Array (Option Value)} (a0 : W.nsIn K mainGlobals "_law_deck" = some (some (.ref f0))) (l0 : K.lookup f0 = some ⟨oc0, od0, .func (W.fnOf "_law_deck" "_law_deck" (defArgs S0) (defBody S0) (defScope S0) .none kV0 dc0 pm0 an0 cd0 ct0), sl0⟩) (c0 : W.codeIn K cd0 "_law_deck" = true) (k0 : W.keepIn K (.ref f0) = true)
    {f1 : Addr} {oc1 kV1 dc1 pm1 cd1 ct1 : Value} {od1 an1 : Option Addr} {sl1 : Array (Option Value)} (a1 : W.nsIn K mainGlobals "_law_draw" = some (some (.ref f1))) (l1 : K.lookup f1 = some ⟨oc1, od1, .func (W.fnOf "_law_draw" "_law_draw" (defArgs S1) (defBody S1) (defScope S1) .none kV1 dc1 pm1 an1 cd1 ct1), sl1⟩) (c1 : W.codeIn K cd1 "_law_draw" = true) (k1 : W.keepIn K (.ref f1) = true)
    {f2 : Addr} {oc2 kV2 dc2 pm2 cd2 ct2 : Value} {od2 an2 : Option Addr} {sl2 : Array (Option Value)} (a2 : W.nsIn K mainGlobals "_law_pick" = some (some (.ref f2))) (l2 : K.lookup f2 = some ⟨oc2, od2, .func (W.fnOf "_law_pick" "_law_pick" (defArgs S2) (defBody S2) (defScope S2) .none kV2 dc2 pm2 an2 cd2 ct2), sl2⟩) (c2 : W.codeIn K cd2 "_law_pick" = true) (k2 : W.keepIn K (.ref f2) = true)
    {f3 : Addr} {oc3 kV3 dc3 pm3 cd3 ct3 : Value} {od3 an3 : Option Addr} {sl3 : Array (Option Value)} (a3 : W.nsIn K mainGlobals "_law_sizes" = some (some (.ref f3))) (l3 : K.lookup f3 = some ⟨oc3, od3, .func (W.fnOf "_law_sizes" "_law_sizes" (defArgs S3) (defBody S3) (defScope S3) .none kV3 dc3 pm3 an3 cd3 ct3), sl3⟩) (c3 : W.codeIn K cd3 "_law_sizes" = true) (k3 : W.keepIn K (.ref f3) = true)
    {f4 : Addr} {oc4 kV4 dc4 pm4 cd4 ct4 : Value} {od4 an4 : Option Addr} {sl4 : Array (Option Value)} (a4 : W.nsIn K mainGlobals "_law_shuffled" = some (some (.ref f4))) (l4 : K.lookup f4 = some ⟨oc4, od4, .func (W.fnOf "_law_shuffled" "_law_shuffled" (defArgs S4) (defBody S4) (defScope S4) .none kV4 dc4 pm4 an4 cd4 ct4), sl4⟩) (c4 : W.codeIn K cd4 "_law_shuffled" = true) (k4 : W.keepIn K (.ref f4) = true)
    {f5 : Addr} {oc5 kV5 dc5 pm5 cd5 ct5 : Value} {od5 an5 : Option Addr} {sl5 : Array (Option Value)} (a5 : W.nsIn K mainGlobals "_law_term" = some (some (.ref f5))) (l5 : K.lookup f5 = some ⟨oc5, od5, .func (W.fnOf "_law_term" "_law_term" (defArgs S5) (defBody S5) (defScope S5) .none kV5 dc5 pm5 an5 cd5 ct5), sl5⟩) (c5 : W.codeIn K cd5 "_law_term" = true) (k5 : W.keepIn K (.ref f5) = true)
    {f6 : Addr} {oc6 kV6 dc6 pm6 cd6 ct6 : Value} {od6 an6 : Option Addr} {sl6 : Array (Option Value)} (a6 : W.nsIn K mainGlobals "_law_drawn_bar" = some (some (.ref f6))) (l6 : K.lookup f6 = some ⟨oc6, od6, .func (W.fnOf "_law_drawn_bar" "_law_drawn_bar" (defArgs S6) (defBody S6) (defScope S6) .none kV6 dc6 pm6 an6 cd6 ct6), sl6⟩) (c6 : W.codeIn K cd6 "_law_drawn_bar" = true) (k6 : W.keepIn K (.ref f6) = true)
    {f7 : Addr} {oc7 kV7 dc7 pm7 cd7 ct7 : Value} {od7 an7 : Option Addr} {sl7 : Array (Option Value)} (a7 : W.nsIn K mainGlobals "_law_problem" = some (some (.ref f7))) (l7 : K.lookup f7 = some ⟨oc7, od7, .func (W.fnOf "_law_problem" "_law_problem" (defArgs S7) (defBody S7) (defScope S7) .none kV7 dc7 pm7 an7 cd7 ct7), sl7⟩) (c7 : W.codeIn K cd7 "_law_problem" = true) (k7 : W.keepIn K (.ref f7) = true)
    {f8 : Addr} {oc8 kV8 dc8 pm8 cd8 ct8 : Value} {od8 an8 : Option Addr} {sl8 : Array (Option Value)} (a8 : W.nsIn K mainGlobals "_law_odd" = some (some (.ref f8))) (l8 : K.lookup f8 = some ⟨oc8, od8, .func (W.fnOf "_law_odd" "_law_odd" (defArgs S8) (defBody S8) (defScope S8) .none kV8 dc8 pm8 an8 cd8 ct8), sl8⟩) (c8 : W.codeIn K cd8 "_law_odd" = true) (k8 : W.keepIn K (.ref f8) = true)
    {f9 : Addr} {oc9 kV9 dc9 pm9 cd9 ct9 : Value} {od9 an9 : Option Addr} {sl9 : Array (Option Value)} (a9 : W.nsIn K mainGlobals "_law_bent" = some (some (.ref f9))) (l9 : K.lookup f9 = some ⟨oc9, od9, .func (W.fnOf "_law_bent" "_law_bent" (defArgs S9) (defBody S9) (defScope S9) .none kV9 dc9 pm9 an9 cd9 ct9), sl9⟩) (c9 : W.codeIn K cd9 "_law_bent" = true) (k9 : W.keepIn K (.ref f9) = true)
    {f10 : Addr} {oc10 kV10 dc10 pm10 cd10 ct10 : Value} {od10 an10 : Option Addr} {sl10 : Array (Option Value)} (a10 : W.nsIn K mainGlobals "_law_great" = some (some (.ref f10))) (l10 : K.lookup f10 = some ⟨oc10, od10, .func (W.fnOf "_law_great" "_law_great" (defArgs S10) (defBody S10) (defScope S10) .none kV10 dc10 pm10 an10 cd10 ct10), sl10⟩) (c10 : W.codeIn K cd10 "_law_great" = true) (k10 : W.keepIn K (.ref f10) = true)
    {f11 : Addr} {oc11 kV11 dc11 pm11 cd11 ct11 : Value} {od11 an11 : Option Addr} {sl11 : Array (Option Value)} (a11 : W.nsIn K mainGlobals "is_row" = some (some (.ref f11))) (l11 : K.lookup f11 = some ⟨oc11, od11, .func (W.fnOf "is_row" "is_row" (defArgs S11) (defBody S11) (defScope S11) .none kV11 dc11 pm11 an11 cd11 ct11), sl11⟩) (c11 : W.codeIn K cd11 "is_row" = true) (k11 : W.keepIn K (.ref f11) = true)
    {f12 : Addr} {oc12 kV12 dc12 pm12 cd12 ct12 : Value} {od12 an12 : Option Addr} {sl12 : Array (Option Value)} (a12 : W.nsIn K mainGlobals "is_integer" = some (some (.ref f12))) (l12 : K.lookup f12 = some ⟨oc12, od12, .func (W.fnOf "is_integer" "is_integer" (defArgs S12) (defBody S12) (defScope S12) .none kV12 dc12 pm12 an12 cd12 ct12), sl12⟩) (c12 : W.codeIn K cd12 "is_integer" = true) (k12 : W.keepIn K (.ref f12) = true)
    {f13 : Addr} {oc13 kV13 dc13 pm13 cd13 ct13 : Value} {od13 an13 : Option Addr} {sl13 : Array (Option Value)} (a13 : W.nsIn K mainGlobals "is_between" = some (some (.ref f13))) (l13 : K.lookup f13 = some ⟨oc13, od13, .func (W.fnOf "is_between" "is_between" (defArgs S13) (defBody S13) (defScope S13) .none kV13 dc13 pm13 an13 cd13 ct13), sl13⟩) (c13 : W.codeIn K cd13 "is_between" = true) (k13 : W.keepIn K (.ref f13) = true)
    {f14 : Addr} {oc14 kV14 dc14 pm14 cd14 ct14 : Value} {od14 an14 : Option Addr} {sl14 : Array (Option Value)} (a14 : W.nsIn K mainGlobals "are_sizes" = some (some (.ref f14))) (l14 : K.lookup f14 = some ⟨oc14, od14, .func (W.fnOf "are_sizes" "are_sizes" (defArgs S14) (defBody S14) (defScope S14) .none kV14 dc14 pm14 an14 cd14 ct14), sl14⟩) (c14 : W.codeIn K cd14 "are_sizes" = true) (k14 : W.keepIn K (.ref f14) = true)
    {f15 : Addr} {oc15 kV15 dc15 pm15 cd15 ct15 : Value} {od15 an15 : Option Addr} {sl15 : Array (Option Value)} (a15 : W.nsIn K mainGlobals "is_rising" = some (some (.ref f15))) (l15 : K.lookup f15 = some ⟨oc15, od15, .func (W.fnOf "is_rising" "is_rising" (defArgs S15) (defBody S15) (defScope S15) .none kV15 dc15 pm15 an15 cd15 ct15), sl15⟩) (c15 : W.codeIn K cd15 "is_rising" = true) (k15 : W.keepIn K (.ref f15) = true)
    {f16 : Addr} {oc16 kV16 dc16 pm16 cd16 ct16 : Value} {od16 an16 : Option Addr} {sl16 : Array (Option Value)} (a16 : W.nsIn K mainGlobals "are_between" = some (some (.ref f16))) (l16 : K.lookup f16 = some ⟨oc16, od16, .func (W.fnOf "are_between" "are_between" (defArgs S16) (defBody S16) (defScope S16) .none kV16 dc16 pm16 an16 cd16 ct16), sl16⟩) (c16 : W.codeIn K cd16 "are_between" = true) (k16 : W.keepIn K (.ref f16) = true)
    {f17 : Addr} {oc17 kV17 dc17 pm17 cd17 ct17 : Value} {od17 an17 : Option Addr} {sl17 : Array (Option Value)} (a17 : W.nsIn K mainGlobals "is_term" = some (some (.ref f17))) (l17 : K.lookup f17 = some ⟨oc17, od17, .func (W.fnOf "is_term" "is_term" (defArgs S17) (defBody S17) (defScope S17) .none kV17 dc17 pm17 an17 cd17 ct17), sl17⟩) (c17 : W.codeIn K cd17 "is_term" = true) (k17 : W.keepIn K (.ref f17) = true)
    {f18 : Addr} {oc18 kV18 dc18 pm18 cd18 ct18 : Value} {od18 an18 : Option Addr} {sl18 : Array (Option Value)} (a18 : W.nsIn K mainGlobals "is_bar_value" = some (some (.ref f18))) (l18 : K.lookup f18 = some ⟨oc18, od18, .func (W.fnOf "is_bar_value" "is_bar_value" (defArgs S18) (defBody S18) (defScope S18) .none kV18 dc18 pm18 an18 cd18 ct18), sl18⟩) (c18 : W.codeIn K cd18 "is_bar_value" = true) (k18 : W.keepIn K (.ref f18) = true)
    {f19 : Addr} {oc19 kV19 dc19 pm19 cd19 ct19 : Value} {od19 an19 : Option Addr} {sl19 : Array (Option Value)} (a19 : W.nsIn K mainGlobals "is_problem_value" = some (some (.ref f19))) (l19 : K.lookup f19 = some ⟨oc19, od19, .func (W.fnOf "is_problem_value" "is_problem_value" (defArgs S19) (defBody S19) (defScope S19) .none kV19 dc19 pm19 an19 cd19 ct19), sl19⟩) (c19 : W.codeIn K cd19 "is_problem_value" = true) (k19 : W.keepIn K (.ref f19) = true)
    {f20 : Addr} {oc20 kV20 dc20 pm20 cd20 ct20 : Value} {od20 an20 : Option Addr} {sl20 : Array (Option Value)} (a20 : W.nsIn K mainGlobals "is_problem" = some (some (.ref f20))) (l20 : K.lookup f20 = some ⟨oc20, od20, .func (W.fnOf "is_problem" "is_problem" (defArgs S20) (defBody S20) (defScope S20) .none kV20 dc20 pm20 an20 cd20 ct20), sl20⟩) (c20 : W.codeIn K cd20 "is_problem" = true) (k20 : W.keepIn K (.ref f20) = true)
    {f21 : Addr} {oc21 kV21 dc21 pm21 cd21 ct21 : Value} {od21 an21 : Option Addr} {sl21 : Array (Option Value)} (a21 : W.nsIn K mainGlobals "is_bar" = some (some (.ref f21))) (l21 : K.lookup f21 = some ⟨oc21, od21, .func (W.fnOf "is_bar" "is_bar" (defArgs S21) (defBody S21) (defScope S21) .none kV21 dc21 pm21 an21 cd21 ct21), sl21⟩) (c21 : W.codeIn K cd21 "is_bar" = true) (k21 : W.keepIn K (.ref f21) = true)
    {f22 : Addr} {oc22 kV22 dc22 pm22 cd22 ct22 : Value} {od22 an22 : Option Addr} {sl22 : Array (Option Value)} (a22 : W.nsIn K mainGlobals "need_problem" = some (some (.ref f22))) (l22 : K.lookup f22 = some ⟨oc22, od22, .func (W.fnOf "need_problem" "need_problem" (defArgs S22) (defBody S22) (defScope S22) .none kV22 dc22 pm22 an22 cd22 ct22), sl22⟩) (c22 : W.codeIn K cd22 "need_problem" = true) (k22 : W.keepIn K (.ref f22) = true)
    {f23 : Addr} {oc23 kV23 dc23 pm23 cd23 ct23 : Value} {od23 an23 : Option Addr} {sl23 : Array (Option Value)} (a23 : W.nsIn K mainGlobals "is_choice_value" = some (some (.ref f23))) (l23 : K.lookup f23 = some ⟨oc23, od23, .func (W.fnOf "is_choice_value" "is_choice_value" (defArgs S23) (defBody S23) (defScope S23) .none kV23 dc23 pm23 an23 cd23 ct23), sl23⟩) (c23 : W.codeIn K cd23 "is_choice_value" = true) (k23 : W.keepIn K (.ref f23) = true)
    {f24 : Addr} {oc24 kV24 dc24 pm24 cd24 ct24 : Value} {od24 an24 : Option Addr} {sl24 : Array (Option Value)} (a24 : W.nsIn K mainGlobals "is_choice_of" = some (some (.ref f24))) (l24 : K.lookup f24 = some ⟨oc24, od24, .func (W.fnOf "is_choice_of" "is_choice_of" (defArgs S24) (defBody S24) (defScope S24) .none kV24 dc24 pm24 an24 cd24 ct24), sl24⟩) (c24 : W.codeIn K cd24 "is_choice_of" = true) (k24 : W.keepIn K (.ref f24) = true)
    {f25 : Addr} {oc25 kV25 dc25 pm25 cd25 ct25 : Value} {od25 an25 : Option Addr} {sl25 : Array (Option Value)} (a25 : W.nsIn K mainGlobals "_law_is_number" = some (some (.ref f25))) (l25 : K.lookup f25 = some ⟨oc25, od25, .func (W.fnOf "_law_is_number" "_law_is_number" (defArgs S25) (defBody S25) (defScope S25) .none kV25 dc25 pm25 an25 cd25 ct25), sl25⟩) (c25 : W.codeIn K cd25 "_law_is_number" = true) (k25 : W.keepIn K (.ref f25) = true)
    {f26 : Addr} {oc26 kV26 dc26 pm26 cd26 ct26 : Value} {od26 an26 : Option Addr} {sl26 : Array (Option Value)} (a26 : W.nsIn K mainGlobals "_law_are_sizes" = some (some (.ref f26))) (l26 : K.lookup f26 = some ⟨oc26, od26, .func (W.fnOf "_law_are_sizes" "_law_are_sizes" (defArgs S26) (defBody S26) (defScope S26) .none kV26 dc26 pm26 an26 cd26 ct26), sl26⟩) (c26 : W.codeIn K cd26 "_law_are_sizes" = true) (k26 : W.keepIn K (.ref f26) = true)
    {f27 : Addr} {oc27 kV27 dc27 pm27 cd27 ct27 : Value} {od27 an27 : Option Addr} {sl27 : Array (Option Value)} (a27 : W.nsIn K mainGlobals "_law_is_bar" = some (some (.ref f27))) (l27 : K.lookup f27 = some ⟨oc27, od27, .func (W.fnOf "_law_is_bar" "_law_is_bar" (defArgs S27) (defBody S27) (defScope S27) .none kV27 dc27 pm27 an27 cd27 ct27), sl27⟩) (c27 : W.codeIn K cd27 "_law_is_bar" = true) (k27 : W.keepIn K (.ref f27) = true)
    {f28 : Addr} {oc28 kV28 dc28 pm28 cd28 ct28 : Value} {od28 an28 : Option Addr} {sl28 : Array (Option Value)} (a28 : W.nsIn K mainGlobals "_law_is_problem" = some (some (.ref f28))) (l28 : K.lookup f28 = some ⟨oc28, od28, .func (W.fnOf "_law_is_problem" "_law_is_problem" (defArgs S28) (defBody S28) (defScope S28) .none kV28 dc28 pm28 an28 cd28 ct28), sl28⟩) (c28 : W.codeIn K cd28 "_law_is_problem" = true) (k28 : W.keepIn K (.ref f28) = true)
    {f29 : Addr} {oc29 kV29 dc29 pm29 cd29 ct29 : Value} {od29 an29 : Option Addr} {sl29 : Array (Option Value)} (a29 : W.nsIn K mainGlobals "_law_is_choice" = some (some (.ref f29))) (l29 : K.lookup f29 = some ⟨oc29, od29, .func (W.fnOf "_law_is_choice" "_law_is_choice" (defArgs S29) (defBody S29) (defScope S29) .none kV29 dc29 pm29 an29 cd29 ct29), sl29⟩) (c29 : W.codeIn K cd29 "_law_is_choice" = true) (k29 : W.keepIn K (.ref f29) = true)
    {f30 : Addr} {oc30 kV30 dc30 pm30 cd30 ct30 : Value} {od30 an30 : Option Addr} {sl30 : Array (Option Value)} (a30 : W.nsIn K mainGlobals "law" = some (some (.ref f30))) (l30 : K.lookup f30 = some ⟨oc30, od30, .func (W.fnOf "law" "law" (defArgs S30) (defBody S30) (defScope S30) .none kV30 dc30 pm30 an30 cd30 ct30), sl30⟩) (c30 : W.codeIn K cd30 "law" = true) (k30 : W.keepIn K (.ref f30) = true)
    (z0 : W.nsIn K mainGlobals "int" = some none)
    (z1 : W.nsIn K mainGlobals "len" = some none)
    (z2 : W.nsIn K mainGlobals "max" = some none)
    (z3 : W.nsIn K mainGlobals "min" = some none)
    (z4 : W.nsIn K mainGlobals "abs" = some none)
    (z5 : W.nsIn K mainGlobals "list" = some none)
    (z6 : W.nsIn K mainGlobals "tuple" = some none)
    (z7 : W.nsIn K mainGlobals "repr" = some none)
    (z8 : W.nsIn K mainGlobals "all" = some none)
    (z9 : W.nsIn K mainGlobals "any" = some none)
    (z10 : W.nsIn K mainGlobals "sorted" = some none)
    (z11 : W.nsIn K mainGlobals "isinstance" = some none)
    (z12 : W.nsIn K mainGlobals "range" = some none)
    (z13 : W.nsIn K mainGlobals "enumerate" = some none)
    (z14 : W.nsIn K mainGlobals "zip" = some none)
    (z15 : W.nsIn K mainGlobals "bool" = some none)
    (z16 : W.nsIn K mainGlobals "str" = some none)
    (z17 : W.nsIn K mainGlobals "dict" = some none)
    (z18 : W.nsIn K mainGlobals "set" = some none)
    : ∃ (fd : FuncData) (F : FnS), (∀ (s : Shared) (u : Value), BindsTo s fd ⟨[u], []⟩ [("_law_script", u)]) ∧ (∀ base : Heap, K.In base → base.Ns mainGlobals mg → FnG l.prog w K mg base 54 fa fd ["_law_script"] F) ∧ ∀ ns : List Int, ns.length ≤ n → F [scriptD ns] (fun d _ => d = .bl true) noX := by
  obtain ⟨fd, h1, h2⟩ := chain (P := l.prog) (w := w) X hn hfa a0 l0 c0 k0 a1 l1 c1 k1 a2 l2 c2 k2 a3 l3 c3 k3 a4 l4 c4 k4 a5 l5 c5 k5 a6 l6 c6 k6 a7 l7 c7 k7 a8 l8 c8 k8 a9 l9 c9 k9 a10 l10 c10 k10 a11 l11 c11 k11 a12 l12 c12 k12 a13 l13 c13 k13 a14 l14 c14 k14 a15 l15 c15 k15 a16 l16 c16 k16 a17 l17 c17 k17 a18 l18 c18 k18 a19 l19 c19 k19 a20 l20 c20 k20 a21 l21 c21 k21 a22 l22 c22 k22 a23 l23 c23 k23 a24 l24 c24 k24 a25 l25 c25 k25 a26 l26 c26 k26 a27 l27 c27 k27 a28 l28 c28 k28 a29 l29 c29 k29 a30 l30 c30 k30 z0 z1 z2 z3 z4 z5 z6 z7 z8 z9 z10 z11 z12 z13 z14 z15 z16 z17 z18
  exact ⟨fd, F30, h1, h2, plain⟩
end K36
open PySem PySem.W PyProof.Rows
set_option maxRecDepth 100000 in
set_option maxHeartbeats 0 in
theorem PySem.Challenge.cw_versionjudge_k36_problems_bars_and_choic_holds : PySem.Challenge.rw_versionjudge_k36_problems_bars_and_choic.Holds := by
  w_on; o_law; k_head; (case hw => w_witness2)
  k_fill
  refine MP.endG (l := PySem.Challenge.rw_versionjudge_k36_problems_bars_and_choic) (n := 63) (k := 54) (x := "_law_script") rfl (by decide) rfl ⟨rfl, by decide, by decide⟩ (fun w h Y => PySem.W.kIn_of Y) ?F
  case F =>
    intro w mg fa h KX G hmg
    refine' K36.fin KX G hmg K36.plain ?a0 ?l0 ?c0 ?k0 ?a1 ?l1 ?c1 ?k1 ?a2 ?l2 ?c2 ?k2 ?a3 ?l3 ?c3 ?k3 ?a4 ?l4 ?c4 ?k4 ?a5 ?l5 ?c5 ?k5 ?a6 ?l6 ?c6 ?k6 ?a7 ?l7 ?c7 ?k7 ?a8 ?l8 ?c8 ?k8 ?a9 ?l9 ?c9 ?k9 ?a10 ?l10 ?c10 ?k10 ?a11 ?l11 ?c11 ?k11 ?a12 ?l12 ?c12 ?k12 ?a13 ?l13 ?c13 ?k13 ?a14 ?l14 ?c14 ?k14 ?a15 ?l15 ?c15 ?k15 ?a16 ?l16 ?c16 ?k16 ?a17 ?l17 ?c17 ?k17 ?a18 ?l18 ?c18 ?k18 ?a19 ?l19 ?c19 ?k19 ?a20 ?l20 ?c20 ?k20 ?a21 ?l21 ?c21 ?k21 ?a22 ?l22 ?c22 ?k22 ?a23 ?l23 ?c23 ?k23 ?a24 ?l24 ?c24 ?k24 ?a25 ?l25 ?c25 ?k25 ?a26 ?l26 ?c26 ?k26 ?a27 ?l27 ?c27 ?k27 ?a28 ?l28 ?c28 ?k28 ?a29 ?l29 ?c29 ?k29 ?a30 ?l30 ?c30 ?k30 ?z0 ?z1 ?z2 ?z3 ?z4 ?z5 ?z6 ?z7 ?z8 ?z9 ?z10 ?z11 ?z12 ?z13 ?z14 ?z15 ?z16 ?z17 ?z18
    (case a0 => k_is)
    (case l0 => k_is)
    (case c0 => k_is)
    (case k0 => k_is)
    (case a1 => k_is)
    (case l1 => k_is)
    (case c1 => k_is)
    (case k1 => k_is)
    (case a2 => k_is)
    (case l2 => k_is)
    (case c2 => k_is)
    (case k2 => k_is)
    (case a3 => k_is)
    (case l3 => k_is)
    (case c3 => k_is)
    (case k3 => k_is)
    (case a4 => k_is)
    (case l4 => k_is)
    (case c4 => k_is)
    (case k4 => k_is)
    (case a5 => k_is)
    (case l5 => k_is)
    (case c5 => k_is)
    (case k5 => k_is)
    (case a6 => k_is)
    (case l6 => k_is)
    (case c6 => k_is)
    (case k6 => k_is)
    (case a7 => k_is)
    (case l7 => k_is)
    (case c7 => k_is)
    (case k7 => k_is)
    (case a8 => k_is)
    (case l8 => k_is)
    (case c8 => k_is)
    (case k8 => k_is)
    (case a9 => k_is)
    (case l9 => k_is)
    (case c9 => k_is)
    (case k9 => k_is)
    (case a10 => k_is)
    (case l10 => k_is)
    (case c10 => k_is)
    (case k10 => k_is)
    (case a11 => k_is)
    (case l11 => k_is)
    (case c11 => k_is)
    (case k11 => k_is)
    (case a12 => k_is)
    (case l12 => k_is)
    (case c12 => k_is)
    (case k12 => k_is)
    (case a13 => k_is)
    (case l13 => k_is)
    (case c13 => k_is)
    (case k13 => k_is)
    (case a14 => k_is)
    (case l14 => k_is)
    (case c14 => k_is)
    (case k14 => k_is)
    (case a15 => k_is)
    (case l15 => k_is)
    (case c15 => k_is)
    (case k15 => k_is)
    (case a16 => k_is)
    (case l16 => k_is)
    (case c16 => k_is)
    (case k16 => k_is)
    (case a17 => k_is)
    (case l17 => k_is)
    (case c17 => k_is)
    (case k17 => k_is)
    (case a18 => k_is)
    (case l18 => k_is)
    (case c18 => k_is)
    (case k18 => k_is)
    (case a19 => k_is)
    (case l19 => k_is)
    (case c19 => k_is)
    (case k19 => k_is)
    (case a20 => k_is)
    (case l20 => k_is)
    (case c20 => k_is)
    (case k20 => k_is)
    (case a21 => k_is)
    (case l21 => k_is)
    (case c21 => k_is)
    (case k21 => k_is)
    (case a22 => k_is)
    (case l22 => k_is)
    (case c22 => k_is)
    (case k22 => k_is)
    (case a23 => k_is)
    (case l23 => k_is)
    (case c23 => k_is)
    (case k23 => k_is)
    (case a24 => k_is)
    (case l24 => k_is)
    (case c24 => k_is)
    (case k24 => k_is)
    (case a25 => k_is)
    (case l25 => k_is)
    (case c25 => k_is)
    (case k25 => k_is)
    (case a26 => k_is)
    (case l26 => k_is)
    (case c26 => k_is)
    (case k26 => k_is)
    (case a27 => k_is)
    (case l27 => k_is)
    (case c27 => k_is)
    (case k27 => k_is)
    (case a28 => k_is)
    (case l28 => k_is)
    (case c28 => k_is)
    (case k28 => k_is)
    (case a29 => k_is)
    (case l29 => k_is)
    (case c29 => k_is)
    (case k29 => k_is)
    (case a30 => k_is)
    (case l30 => k_is)
    (case c30 => k_is)
    (case k30 => k_is)
    (case z0 => k_is)
    (case z1 => k_is)
    (case z2 => k_is)
    (case z3 => k_is)
    (case z4 => k_is)
    (case z5 => k_is)
    (case z6 => k_is)
    (case z7 => k_is)
    (case z8 => k_is)
    (case z9 => k_is)
    (case z10 => k_is)
    (case z11 => k_is)
    (case z12 => k_is)
    (case z13 => k_is)
    (case z14 => k_is)
    (case z15 => k_is)
    (case z16 => k_is)
    (case z17 => k_is)
    (case z18 => k_is)
#print axioms PySem.Challenge.cw_versionjudge_k36_problems_bars_and_choic_holds

