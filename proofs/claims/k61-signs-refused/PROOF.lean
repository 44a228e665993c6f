import PyProof.Rows.All
import PySem.Challenge.RW_thinwood_k61_signs_refused
import Wide.All
import OpenK.AllK
import Wide.FinOn
import HandS.ForExc
import HandS.ForMost
import HandS.ExcCtx
import HandS.Nested
import HandS.RevRange
import HandS.Rev
import HandS.Zip
import HandS.Iter
import HandS.Style
import HandS.Defaults
import HandS.HotCalls
import HandS.ExcIs
import HandS.IsInst
import HandS.SetFor
import HandS.SortInts
import HandS.Dict
import HandS.HeadEnd
import HandS.Head0
import HandS.Head1
import HandS.Head2
import HandS.HeadHook1
import HandS.HeadHook2
import HandS.HeadHook3
import HandS.HeadHook4
import KE.BitLaws
set_option Elab.async false
set_option linter.all false
set_option maxRecDepth 100000
set_option maxHeartbeats 4000000
/-! DL1: data without a heap, what bears it in a heap, what stays. -/
namespace DL
open PySem PySem.Spec L2

/-- data as a program's text means it -/
inductive D where
  | non | bl (b : Bool) | int (i : Int) | str (x : Str)
  | lst (xs : List D) | tup (xs : List D)
  | dct (ks : List Key) (vs : List D)
  | scr (ns : List Int)
  | exc (a C : Addr)
  | look (k : Nat) (xs : List D)
  | log (n : Nat)

/-- the world's parts that may turn: logs (their addresses, the bound of what they hold) -/
abbrev Lgs := Addr → Option Nat

/-- what a look's function object keeps: see DL on looks; a letter here -/
abbrev LookRel := Lgs → Hp → (Addr → Prop) → Addr → Nat → List D → Prop

mutual
/-- v bears d in H; its lists stand at addresses of P -/
def Rep (P : Addr → Prop) (H : Hp) : D → V → Prop
  | .non, v => v = .non
  | .bl b, v => v = .bl b
  | .int i, v => v = .int i
  | .str x, v => v = .str x
  | .lst xs, v => ∃ a vs, v = .ref a ∧ P a ∧ H a = some (.lst vs) ∧ RepL P H xs vs
  | .tup xs, v => ∃ a vs, v = .ref a ∧ H a = some (.tup vs) ∧ RepL P H xs vs
  | .scr ns, v => ∃ a o, v = .ref a ∧ H a = some (.frz o (.lst (ns.map .int)))
  | .dct ks ds, v => ∃ a kvs, v = .ref a ∧ P a ∧ H a = some (.dK kvs) ∧ kvs.map (·.1) = ks ∧ RepL P H ds (kvs.map (·.2))
  | .exc a _, v => v = .ref a
  | .look _ _, _ => False
  | .log _, _ => False
def RepL (P : Addr → Prop) (H : Hp) : List D → List V → Prop
  | [], vs => vs = []
  | d :: ds, vs => ∃ v r, vs = v :: r ∧ Rep P H d v ∧ RepL P H ds r
end

/- data without lists, dicts, looks: it hangs on no address that may change -/
mutual
def flat : D → Bool
  | .non => true | .bl _ => true | .int _ => true | .str _ => true
  | .lst _ => false | .tup xs => flatL xs | .dct _ _ => false | .exc _ _ => true | .scr _ => true | .look _ _ => false | .log _ => false
def flatL : List D → Bool
  | [] => true
  | d :: ds => flat d && flatL ds
end

/- equality of data, by values -/
mutual
def D.beq : D → D → Bool
  | .non, .non => true
  | .bl a, .bl b => a == b
  | .int a, .int b => a == b
  | .str a, .str b => decide (a = b)
  | .lst a, .lst b => D.beqL a b
  | .tup a, .tup b => D.beqL a b
  | _, _ => false
def D.beqL : List D → List D → Bool
  | [], [] => true
  | a :: as, b :: bs => D.beq a b && D.beqL as bs
  | _, _ => false
end

theorem RepL.len {P : Addr → Prop} {H : Hp} : ∀ {ds : List D} {vs : List V}, RepL P H ds vs → vs.length = ds.length
  | [], vs, h => by
    have h : vs = [] := by simpa [RepL] using h
    subst h; rfl
  | d :: ds, vs, h => by
    simp only [RepL] at h
    obtain ⟨v, r, rfl, _, h2⟩ := h
    simp [RepL.len h2]
theorem RepL.get {P : Addr → Prop} {H : Hp} : ∀ {ds : List D} {vs : List V} {i : Nat} {d : D}, RepL P H ds vs → ds[i]? = some d → ∃ v, vs[i]? = some v ∧ Rep P H d v
  | [], _, _, _, _, e => by simp at e
  | d :: ds, vs, 0, d', h, e => by
    simp only [RepL] at h
    obtain ⟨v, r, rfl, h1, h2⟩ := h
    simp at e; subst e
    exact ⟨v, rfl, h1⟩
  | d :: ds, vs, i + 1, d', h, e => by
    simp only [RepL] at h
    obtain ⟨v, r, rfl, h1, h2⟩ := h
    simpa using RepL.get h2 (by simpa using e)
theorem RepL.get' {P : Addr → Prop} {H : Hp} {ds : List D} {vs : List V} {i : Nat} {v : V} (h : RepL P H ds vs) (e : vs[i]? = some v) : ∃ d, ds[i]? = some d ∧ Rep P H d v := by
  have hl := h.len
  have hi : i < vs.length := (List.getElem?_eq_some_iff.mp e).1
  have : ds[i]? = some (ds[i]'(by omega)) := List.getElem?_eq_getElem (by omega)
  obtain ⟨v', e', r⟩ := h.get this
  rw [e] at e'; cases e'
  exact ⟨_, this, r⟩
theorem RepL.append {P : Addr → Prop} {H : Hp} : ∀ {ds es : List D} {vs us : List V}, RepL P H ds vs → RepL P H es us → RepL P H (ds ++ es) (vs ++ us)
  | [], es, vs, us, h, g => by
    have h : vs = [] := by simpa [RepL] using h
    subst h; simpa using g
  | d :: ds, es, vs, us, h, g => by
    simp only [RepL] at h
    obtain ⟨v, r, rfl, h1, h2⟩ := h
    simp only [List.cons_append, RepL]
    exact ⟨v, r ++ us, rfl, h1, RepL.append h2 g⟩
theorem RepL.nil {P : Addr → Prop} {H : Hp} : RepL P H [] [] := by simp [RepL]
theorem RepL.cons {P : Addr → Prop} {H : Hp} {d : D} {ds : List D} {v : V} {vs : List V} (h : Rep P H d v) (t : RepL P H ds vs) : RepL P H (d :: ds) (v :: vs) := by
  simp only [RepL]; exact ⟨v, vs, rfl, h, t⟩
theorem RepL.one {P : Addr → Prop} {H : Hp} {d : D} {v : V} (h : Rep P H d v) : RepL P H [d] [v] := .cons h .nil
theorem RepL.uncons {P : Addr → Prop} {H : Hp} {d : D} {ds : List D} {vs : List V} (h : RepL P H (d :: ds) vs) : ∃ v r, vs = v :: r ∧ Rep P H d v ∧ RepL P H ds r := by
  simpa only [RepL] using h
theorem RepL.unnil {P : Addr → Prop} {H : Hp} {vs : List V} (h : RepL P H [] vs) : vs = [] := by simpa only [RepL] using h
theorem RepL.set {P : Addr → Prop} {H : Hp} {d : D} {v : V} (hd : Rep P H d v) : ∀ {ds : List D} {vs : List V} (i : Nat), RepL P H ds vs → RepL P H (ds.set i d) (vs.set i v)
  | [], vs, _, h => by
    have h : vs = [] := h.unnil
    subst h; exact .nil
  | _ :: ds, vs, 0, h => by
    obtain ⟨v', r, rfl, h1, h2⟩ := h.uncons
    exact .cons hd h2
  | _ :: ds, vs, i + 1, h => by
    obtain ⟨v', r, rfl, h1, h2⟩ := h.uncons
    exact .cons h1 (RepL.set hd i h2)
theorem RepL.drop {P : Addr → Prop} {H : Hp} : ∀ {ds : List D} {vs : List V} (i : Nat), RepL P H ds vs → RepL P H (ds.drop i) (vs.drop i)
  | ds, vs, 0, h => h
  | [], vs, i + 1, h => by
    have h : vs = [] := h.unnil
    subst h; exact .nil
  | _ :: ds, vs, i + 1, h => by
    obtain ⟨v', r, rfl, h1, h2⟩ := h.uncons
    exact RepL.drop i h2
theorem RepL.take {P : Addr → Prop} {H : Hp} : ∀ {ds : List D} {vs : List V} (i : Nat), RepL P H ds vs → RepL P H (ds.take i) (vs.take i)
  | ds, vs, 0, h => .nil
  | [], vs, i + 1, h => by
    have h : vs = [] := h.unnil
    subst h; exact .nil
  | _ :: ds, vs, i + 1, h => by
    obtain ⟨v', r, rfl, h1, h2⟩ := h.uncons
    exact .cons h1 (RepL.take i h2)
theorem RepL.reverse {P : Addr → Prop} {H : Hp} : ∀ {ds : List D} {vs : List V}, RepL P H ds vs → RepL P H ds.reverse vs.reverse
  | [], vs, h => by
    have h : vs = [] := h.unnil
    subst h; exact .nil
  | _ :: ds, vs, h => by
    obtain ⟨v', r, rfl, h1, h2⟩ := h.uncons
    rw [List.reverse_cons, List.reverse_cons]
    exact .append (RepL.reverse h2) (.one h1)

/-! ### what stays -/
/-- all but the logs and the tables of code objects is as it was -/
structure SameW (Lg : Lgs) (H H' : Hp) : Prop where
  keep : ∀ b o, H b = some o → (∀ ps, o ≠ .tbl ps) → (∀ xs, o = .lst xs → Lg b = none) → H' b = some o
  dom : ∀ b, H' b = none → H b = none
theorem SameW.refl {Lg : Lgs} {H : Hp} : SameW Lg H H := ⟨fun _ _ h _ _ => h, fun _ h => h⟩
theorem SameW.trans {Lg : Lgs} {H H1 H2 : Hp} (a : SameW Lg H H1) (b : SameW Lg H1 H2) : SameW Lg H H2 := ⟨fun c o h h1 h2 => b.keep c o (a.keep c o h h1 h2) h1 h2, fun c h => a.dom c (b.dom c h)⟩
theorem SameW.of {Lg : Lgs} {H H' : Hp} (h : Same H H') : SameW Lg H H' := ⟨fun b o e _ _ => h b o e, fun b e => h.free e⟩
theorem SameW.new {Lg : Lgs} {H : Hp} {p : Addr} {o : HO} (h : H p = none) : SameW Lg H (upd H p o) := .of fun b u e => by
  rw [upd_ne (ne_of_none e h)]; exact e

mutual
theorem Rep.keep {P : Addr → Prop} {Lg : Lgs} {H H' : Hp} (s : SameW Lg H H') (hP : ∀ a, P a → Lg a = none) : ∀ (d : D) (v : V), Rep P H d v → Rep P H' d v
  | .non, v, h => by simpa only [Rep] using h
  | .bl _, v, h => by simpa only [Rep] using h
  | .int _, v, h => by simpa only [Rep] using h
  | .str _, v, h => by simpa only [Rep] using h
  | .lst xs, v, h => by
    simp only [Rep] at h ⊢
    obtain ⟨a, vs, e, p, r, t⟩ := h
    exact ⟨a, vs, e, p, s.keep a _ r (fun ps z => nomatch z) (fun _ _ => hP a p), RepL.keep s hP xs vs t⟩
  | .tup xs, v, h => by
    simp only [Rep] at h ⊢
    obtain ⟨a, vs, e, r, t⟩ := h
    exact ⟨a, vs, e, s.keep a _ r (fun ps z => nomatch z) (fun _ z => nomatch z), RepL.keep s hP xs vs t⟩
  | .dct ks ds, v, h => by
    simp only [Rep] at h ⊢
    obtain ⟨a, kvs, e, p, r, e2, t⟩ := h
    exact ⟨a, kvs, e, p, s.keep a _ r (fun ps z => nomatch z) (fun _ z => nomatch z), e2, RepL.keep s hP ds _ t⟩
  | .exc _ _, v, h => by simpa only [Rep] using h
  | .scr ns, v, h => by
    simp only [Rep] at h ⊢
    obtain ⟨a, o, e, r⟩ := h
    exact ⟨a, o, e, s.keep a _ r (fun ps z => nomatch z) (fun _ z => nomatch z)⟩
  | .look _ _, v, h => by simp only [Rep] at h
  | .log _, v, h => by simp only [Rep] at h
theorem RepL.keep {P : Addr → Prop} {Lg : Lgs} {H H' : Hp} (s : SameW Lg H H') (hP : ∀ a, P a → Lg a = none) : ∀ (ds : List D) (vs : List V), RepL P H ds vs → RepL P H' ds vs
  | [], vs, h => by simpa only [RepL] using h
  | d :: ds, vs, h => by
    simp only [RepL] at h ⊢
    obtain ⟨v, r, e, h1, h2⟩ := h
    exact ⟨v, r, e, Rep.keep s hP d v h1, RepL.keep s hP ds r h2⟩
end
/- a list changed in place: what does not lie there stays -/
mutual
theorem Rep.write {P : Addr → Prop} {H H' : Hp} {p : Addr} (s : ∀ b, b ≠ p → H' b = H b) (hm : Mut (H p)) (hP : ¬ P p) : ∀ (d : D) (v : V), Rep P H d v → Rep P H' d v
  | .non, v, h => by simpa only [Rep] using h
  | .bl _, v, h => by simpa only [Rep] using h
  | .int _, v, h => by simpa only [Rep] using h
  | .str _, v, h => by simpa only [Rep] using h
  | .lst xs, v, h => by
    simp only [Rep] at h ⊢
    obtain ⟨a, vs, e, pa, r, t⟩ := h
    have ne : a ≠ p := fun z => hP (z ▸ pa)
    exact ⟨a, vs, e, pa, by rw [s a ne]; exact r, RepL.write s hm hP xs vs t⟩
  | .tup xs, v, h => by
    simp only [Rep] at h ⊢
    obtain ⟨a, vs, e, r, t⟩ := h
    have ne : a ≠ p := fun z => by
      subst z
      rw [r] at hm; exact hm
    exact ⟨a, vs, e, by rw [s a ne]; exact r, RepL.write s hm hP xs vs t⟩
  | .dct ks ds, v, h => by
    simp only [Rep] at h ⊢
    obtain ⟨a, kvs, e, pa, r, e2, t⟩ := h
    have ne : a ≠ p := fun z => hP (z ▸ pa)
    exact ⟨a, kvs, e, pa, by rw [s a ne]; exact r, e2, RepL.write s hm hP ds _ t⟩
  | .exc _ _, v, h => by simpa only [Rep] using h
  | .scr ns, v, h => by
    simp only [Rep] at h ⊢
    obtain ⟨a, o, e, r⟩ := h
    have ne : a ≠ p := fun z => by
      subst z
      rw [r] at hm; exact hm
    exact ⟨a, o, e, by rw [s a ne]; exact r⟩
  | .look _ _, v, h => by simp only [Rep] at h
  | .log _, v, h => by simp only [Rep] at h
theorem RepL.write {P : Addr → Prop} {H H' : Hp} {p : Addr} (s : ∀ b, b ≠ p → H' b = H b) (hm : Mut (H p)) (hP : ¬ P p) : ∀ (ds : List D) (vs : List V), RepL P H ds vs → RepL P H' ds vs
  | [], vs, h => by simpa only [RepL] using h
  | d :: ds, vs, h => by
    simp only [RepL] at h ⊢
    obtain ⟨v, r, e, h1, h2⟩ := h
    exact ⟨v, r, e, Rep.write s hm hP d v h1, RepL.write s hm hP ds r h2⟩
end
/- other words for where the lists stand -/
mutual
theorem Rep.weak {P P' : Addr → Prop} {H : Hp} (hP : ∀ a, P a → H a ≠ none → P' a) : ∀ (d : D) (v : V), Rep P H d v → Rep P' H d v
  | .non, v, h => by simpa only [Rep] using h
  | .bl _, v, h => by simpa only [Rep] using h
  | .int _, v, h => by simpa only [Rep] using h
  | .str _, v, h => by simpa only [Rep] using h
  | .lst xs, v, h => by
    simp only [Rep] at h ⊢
    obtain ⟨a, vs, e, p, r, t⟩ := h
    exact ⟨a, vs, e, hP a p (by rw [r]; simp), r, RepL.weak hP xs vs t⟩
  | .tup xs, v, h => by
    simp only [Rep] at h ⊢
    obtain ⟨a, vs, e, r, t⟩ := h
    exact ⟨a, vs, e, r, RepL.weak hP xs vs t⟩
  | .dct ks ds, v, h => by
    simp only [Rep] at h ⊢
    obtain ⟨a, kvs, e, p, r, e2, t⟩ := h
    exact ⟨a, kvs, e, hP a p (by rw [r]; simp), r, e2, RepL.weak hP ds _ t⟩
  | .exc _ _, v, h => by simpa only [Rep] using h
  | .scr ns, v, h => by simpa only [Rep] using h
  | .look _ _, v, h => by simp only [Rep] at h
  | .log _, v, h => by simp only [Rep] at h
theorem RepL.weak {P P' : Addr → Prop} {H : Hp} (hP : ∀ a, P a → H a ≠ none → P' a) : ∀ (ds : List D) (vs : List V), RepL P H ds vs → RepL P' H ds vs
  | [], vs, h => by simpa only [RepL] using h
  | d :: ds, vs, h => by
    simp only [RepL] at h ⊢
    obtain ⟨v, r, e, h1, h2⟩ := h
    exact ⟨v, r, e, Rep.weak hP d v h1, RepL.weak hP ds r h2⟩
end
/- flat data: anywhere -/
mutual
theorem Rep.flat {P P' : Addr → Prop} {H : Hp} : ∀ (d : D) (v : V), flat d = true → Rep P H d v → Rep P' H d v
  | .non, v, _, h => by simpa only [Rep] using h
  | .bl _, v, _, h => by simpa only [Rep] using h
  | .int _, v, _, h => by simpa only [Rep] using h
  | .str _, v, _, h => by simpa only [Rep] using h
  | .lst xs, v, f, h => by simp [DL.flat] at f
  | .tup xs, v, f, h => by
    simp only [Rep] at h ⊢
    simp only [DL.flat] at f
    obtain ⟨a, vs, e, r, t⟩ := h
    exact ⟨a, vs, e, r, RepL.flat xs vs f t⟩
  | .dct ks ds, v, f, h => by simp [DL.flat] at f
  | .exc _ _, v, f, h => by simpa only [Rep] using h
  | .scr ns, v, f, h => by simpa only [Rep] using h
  | .look _ _, v, f, h => by simp only [Rep] at h
  | .log _, v, f, h => by simp only [Rep] at h
theorem RepL.flat {P P' : Addr → Prop} {H : Hp} : ∀ (ds : List D) (vs : List V), flatL ds = true → RepL P H ds vs → RepL P' H ds vs
  | [], vs, _, h => by simpa only [RepL] using h
  | d :: ds, vs, f, h => by
    simp only [RepL] at h ⊢
    simp only [flatL, Bool.and_eq_true] at f
    obtain ⟨v, r, e, h1, h2⟩ := h
    exact ⟨v, r, e, Rep.flat d v f.1 h1, RepL.flat ds r f.2 h2⟩
end
end DL

set_option Elab.async false
set_option linter.all false
set_option maxRecDepth 100000
set_option maxHeartbeats 4000000
/-! DL2: the state's relation, modes, the judgements. -/
namespace DL
open PySem PySem.Spec L2

/-- a slot: nothing known; data that may be shared; a list or dict of the def's own, at an address that nothing else names -/
inductive Sl where
  | un | sh (d : D) | ow (d : D)
abbrev DSt := List Sl
structure Gc where
  Lg : Lgs
  T : List NdefX.NTab
  A : Addr → Prop
  gh : Addr → Prop
  H0 : Hp
  md : Bool
  ca : Str → Addr
  ep : Str → DSt → Nat → Prop
  W : WX
  hs0 : List (D × V) := []
def cap : Nat := 2 ^ 24
/-- the world's own order: the tables of code objects, the logs -/
structure WInv (T : List NdefX.NTab) (Lg : Lgs) (c : Nat) (H : Hp) : Prop where
  tabs : NdefX.TabsN T H
  logs : ∀ a n, Lg a = some n → ∃ ns : List Int, H a = some (.lst (ns.map .int)) ∧ (∀ z ∈ ns, 0 ≤ z ∧ z < n) ∧ ns.length + c ≤ cap
theorem WInv.fresh {T : List NdefX.NTab} {Lg : Lgs} {c : Nat} {H : Hp} (w : WInv T Lg c H) {p : Addr} (h : H p = none) : Lg p = none := by
  cases e : Lg p with
  | none => rfl
  | some n =>
    obtain ⟨ns, q, _⟩ := w.logs p n e
    rw [h] at q; cases q
theorem WInv.same {T : List NdefX.NTab} {Lg : Lgs} {c : Nat} {H H' : Hp} (w : WInv T Lg c H) (s : Same H H') : WInv T Lg c H' :=
  ⟨w.tabs.ext s, fun a n e => let ⟨ns, q, r⟩ := w.logs a n e; ⟨ns, s _ _ q, r⟩⟩
theorem same_new {H : Hp} {p : Addr} {o : HO} (h : H p = none) : Same H (upd H p o) := fun b u e => by
  rw [upd_ne (ne_of_none e h)]; exact e
theorem WInv.new {T : List NdefX.NTab} {Lg : Lgs} {c : Nat} {H : Hp} {p : Addr} {o : HO} (w : WInv T Lg c H) (h : H p = none) : WInv T Lg c (upd H p o) := w.same (same_new h)
/-- what may be written: a list, a dict -/
def Wr (o : HO) : Prop := (∃ xs, o = .lst xs) ∨ ∃ kvs, o = .dK kvs
theorem WInv.write {T : List NdefX.NTab} {Lg : Lgs} {c : Nat} {H : Hp} {p : Addr} {o u : HO} (w : WInv T Lg c H) (h : H p = some u) (hw : Wr u) (hl : Lg p = none) : WInv T Lg c (upd H p o) := by
  have nt : ∀ ps, u ≠ .tbl ps := fun ps z => by rcases hw with ⟨_, e⟩ | ⟨_, e⟩ <;> rw [e] at z <;> cases z
  have nc : ∀ φ, u ≠ .ext φ := fun ps z => by rcases hw with ⟨_, e⟩ | ⟨_, e⟩ <;> rw [e] at z <;> cases z
  refine ⟨fun q hq => ?_, fun a n e => ?_⟩
  · obtain ⟨ps, h1, h2, h3⟩ := w.tabs q hq
    refine ⟨ps, ?_, h2, fun pos cv hc => ?_⟩
    · rw [upd_ne]; exact h1
      rintro rfl; rw [h] at h1; exact nt _ (Option.some.inj h1)
    · obtain ⟨c', e1, e2⟩ := h3 pos cv hc
      refine ⟨c', e1, ?_⟩
      rw [upd_ne]; exact e2
      rintro rfl; rw [h] at e2; exact nc _ (Option.some.inj e2)
  · obtain ⟨ns, q, r⟩ := w.logs a n e
    refine ⟨ns, ?_, r⟩
    rw [upd_ne]; exact q
    rintro rfl; rw [hl] at e; cases e

/-- the addresses of the def's own slots, and those of lists in the making -/
def Mo (G : Gc) (ds : DSt) (σ : St) (a : Addr) : Prop := G.gh a ∨ ∃ (i : Nat) (d : D), ds[i]? = some (.ow d) ∧ σ[i]? = some (some (.ref a))
def pE (G : Gc) (ds : DSt) (σ : St) (a : Addr) : Prop := G.Lg a = none ∧ ¬ Mo G ds σ a ∧ (G.A a ∨ G.H0 a = none)
def pB (G : Gc) (a : Addr) : Prop := G.Lg a = none
def pR (G : Gc) (a : Addr) : Prop := G.Lg a = none ∧ (G.H0 a = none ∨ (G.md = true ∧ G.A a))
def pF (G : Gc) (H : Hp) (a : Addr) : Prop := G.Lg a = none ∧ H a = none
/-- modes: B anything; T its elements may be held; E it may be held; O a new one, its elements may be held; R it may be handed back; N all of it is new -/
inductive Md | B | T | E | O | R | N
def topP (G : Gc) (ds : DSt) (σ : St) (H : Hp) : Md → Addr → Prop
  | .B => pB G | .T => pB G | .E => pE G ds σ | .O => pF G H | .R => pR G | .N => pF G H
def innP (G : Gc) (ds : DSt) (σ : St) (H : Hp) : Md → Addr → Prop
  | .B => pB G | .T => pE G ds σ | .E => pE G ds σ | .O => pE G ds σ | .R => pR G | .N => pF G H
/-- as Rep, the outermost list or dict at an address of P0 -/
def Rep2 (P0 P : Addr → Prop) (H : Hp) (d : D) (v : V) : Prop := match d with
  | .lst xs => ∃ a vs, v = .ref a ∧ P0 a ∧ H a = some (.lst vs) ∧ RepL P H xs vs
  | .dct ks es => ∃ a kvs, v = .ref a ∧ P0 a ∧ H a = some (.dK kvs) ∧ kvs.map (·.1) = ks ∧ RepL P H es (kvs.map (·.2))
  | d => Rep P H d v
abbrev RepM (m : Md) (G : Gc) (ds : DSt) (σ : St) (H0 H : Hp) (d : D) (v : V) : Prop := Rep2 (topP G ds σ H0 m) (innP G ds σ H0 m) H d v
theorem rep2_self {P : Addr → Prop} {H : Hp} {d : D} {v : V} : Rep2 P P H d v ↔ Rep P H d v := by
  cases d <;> simp [Rep2, Rep]
theorem Rep2.imp {P0 P P0' P' : Addr → Prop} {H : Hp} (h0 : ∀ a, P0 a → H a ≠ none → P0' a) (h1 : ∀ a, P a → H a ≠ none → P' a) {d : D} {v : V} (h : Rep2 P0 P H d v) : Rep2 P0' P' H d v := by
  cases d with
  | lst xs => obtain ⟨a, vs, e, p, r, t⟩ := h; exact ⟨a, vs, e, h0 a p (by rw [r]; simp), r, RepL.weak h1 _ _ t⟩
  | dct ks es => obtain ⟨a, kvs, e, p, r, e2, t⟩ := h; exact ⟨a, kvs, e, h0 a p (by rw [r]; simp), r, e2, RepL.weak h1 _ _ t⟩
  | _ => exact Rep.weak h1 _ _ h
theorem Rep2.keep {P0 P : Addr → Prop} {Lg : Lgs} {H H' : Hp} (s : SameW Lg H H') (h0 : ∀ a, P0 a → Lg a = none) (h1 : ∀ a, P a → Lg a = none) {d : D} {v : V} (h : Rep2 P0 P H d v) : Rep2 P0 P H' d v := by
  cases d with
  | lst xs => obtain ⟨a, vs, e, p, r, t⟩ := h; exact ⟨a, vs, e, p, s.keep a _ r (fun _ z => nomatch z) (fun _ _ => h0 a p), RepL.keep s h1 _ _ t⟩
  | dct ks es => obtain ⟨a, kvs, e, p, r, e2, t⟩ := h; exact ⟨a, kvs, e, p, s.keep a _ r (fun _ z => nomatch z) (fun _ z => nomatch z), e2, RepL.keep s h1 _ _ t⟩
  | _ => exact Rep.keep s h1 _ _ h
theorem topP_lg {G : Gc} {ds : DSt} {σ : St} {H : Hp} : ∀ (m : Md) (a : Addr), topP G ds σ H m a → G.Lg a = none
  | .B, _, h => h | .T, _, h => h | .E, _, h => h.1 | .O, _, h => h.1 | .R, _, h => h.1 | .N, _, h => h.1
theorem innP_lg {G : Gc} {ds : DSt} {σ : St} {H : Hp} : ∀ (m : Md) (a : Addr), innP G ds σ H m a → G.Lg a = none
  | .B, _, h => h | .T, _, h => h.1 | .E, _, h => h.1 | .O, _, h => h.1 | .R, _, h => h.1 | .N, _, h => h.1
theorem RepM.keep {m : Md} {G : Gc} {ds : DSt} {σ : St} {H0 H H' : Hp} {d : D} {v : V} (s : SameW G.Lg H H') (h : RepM m G ds σ H0 H d v) : RepM m G ds σ H0 H' d v := Rep2.keep s (topP_lg m) (innP_lg m) h

/-- an own list or dict at p -/
def OwnOk (P : Addr → Prop) (H : Hp) (p : Addr) : D → Prop
  | .lst xs => ∃ vs, H p = some (.lst vs) ∧ RepL P H xs vs
  | .dct ks es => ∃ kvs, H p = some (.dK kvs) ∧ kvs.map (·.1) = ks ∧ RepL P H es (kvs.map (·.2))
  | _ => False
theorem OwnOk.dom {P : Addr → Prop} {H : Hp} {p : Addr} : ∀ {d : D}, OwnOk P H p d → ∃ o, H p = some o ∧ Wr o
  | .lst _, h => let ⟨vs, e, _⟩ := h; ⟨_, e, .inl ⟨_, rfl⟩⟩
  | .dct _ _, h => let ⟨vs, e, _⟩ := h; ⟨_, e, .inr ⟨_, rfl⟩⟩
  | .non, h => h.elim | .bl _, h => h.elim | .int _, h => h.elim | .str _, h => h.elim | .tup _, h => h.elim | .scr _, h => h.elim | .exc _ _, h => h.elim | .look _ _, h => h.elim | .log _, h => h.elim
theorem OwnOk.imp {P P' : Addr → Prop} {H : Hp} {p : Addr} (h1 : ∀ a, P a → H a ≠ none → P' a) : ∀ {d : D}, OwnOk P H p d → OwnOk P' H p d
  | .lst _, ⟨vs, e, t⟩ => ⟨vs, e, RepL.weak h1 _ _ t⟩
  | .dct _ _, ⟨vs, e, e2, t⟩ => ⟨vs, e, e2, RepL.weak h1 _ _ t⟩
  | .non, h => h.elim | .bl _, h => h.elim | .int _, h => h.elim | .str _, h => h.elim | .tup _, h => h.elim | .scr _, h => h.elim | .exc _ _, h => h.elim | .look _ _, h => h.elim | .log _, h => h.elim
theorem OwnOk.keep {P : Addr → Prop} {Lg : Lgs} {H H' : Hp} {p : Addr} (s : SameW Lg H H') (hp : Lg p = none) (h1 : ∀ a, P a → Lg a = none) : ∀ {d : D}, OwnOk P H p d → OwnOk P H' p d
  | .lst _, ⟨vs, e, t⟩ => ⟨vs, s.keep p _ e (fun _ z => nomatch z) (fun _ _ => hp), RepL.keep s h1 _ _ t⟩
  | .dct _ _, ⟨vs, e, e2, t⟩ => ⟨vs, s.keep p _ e (fun _ z => nomatch z) (fun _ z => nomatch z), e2, RepL.keep s h1 _ _ t⟩
  | .non, h => h.elim | .bl _, h => h.elim | .int _, h => h.elim | .str _, h => h.elim | .tup _, h => h.elim | .scr _, h => h.elim | .exc _ _, h => h.elim | .look _ _, h => h.elim | .log _, h => h.elim
theorem OwnOk.write {P : Addr → Prop} {H H' : Hp} {p q : Addr} (s : ∀ b, b ≠ p → H' b = H b) (hm : Mut (H p)) (hP : ¬ P p) (hq : q ≠ p) : ∀ {d : D}, OwnOk P H q d → OwnOk P H' q d
  | .lst _, ⟨vs, e, t⟩ => ⟨vs, by rw [s q hq]; exact e, RepL.write s hm hP _ _ t⟩
  | .dct _ _, ⟨vs, e, e2, t⟩ => ⟨vs, by rw [s q hq]; exact e, e2, RepL.write s hm hP _ _ t⟩
  | .non, h => h.elim | .bl _, h => h.elim | .int _, h => h.elim | .str _, h => h.elim | .tup _, h => h.elim | .scr _, h => h.elim | .exc _ _, h => h.elim | .look _ _, h => h.elim | .log _, h => h.elim

/-- the slots' data as the frame and the heap have it; hs: what a loop around holds besides -/
structure StR (G : Gc) (hs : List (D × V)) (σ : St) (H : Hp) (ds : DSt) (c : Nat) : Prop where
  same : SameW G.Lg G.H0 H
  winv : WInv G.T G.Lg c H
  len : ds.length = σ.length
  sh : ∀ (i : Nat) (d : D), ds[i]? = some (.sh d) → ∃ v, σ[i]? = some (some v) ∧ Rep (pE G ds σ) H d v
  ow : ∀ (i : Nat) (d : D), ds[i]? = some (.ow d) → ∃ p, σ[i]? = some (some (.ref p)) ∧ G.H0 p = none ∧ (G.Lg p = none ∧ ¬ G.gh p) ∧ OwnOk (pE G ds σ) H p d
  apart : ∀ (i j : Nat) (di dj : D) (p : Addr), ds[i]? = some (.ow di) → ds[j]? = some (.ow dj) → σ[i]? = some (some (.ref p)) → σ[j]? = some (some (.ref p)) → i = j
  held : ∀ q ∈ hs ++ G.hs0, Rep (pE G ds σ) H q.1 q.2
  ghd : ∀ a, G.gh a → H a ≠ none
theorem pE_lg {G : Gc} {ds : DSt} {σ : St} (a : Addr) (h : pE G ds σ a) : G.Lg a = none := h.1
section
variable {G : Gc} {hs : List (D × V)} {σ : St} {H H' H1 : Hp} {ds : DSt} {c c' c1 : Nat} {i : Nat} {d : D} {v : V} {p a : Addr}
theorem StR.grow (S : StR G hs σ H ds c) (s : SameW G.Lg H H') (w : WInv G.T G.Lg c' H') : StR G hs σ H' ds c' :=
  ⟨S.same.trans s, w, S.len, fun i d e => let ⟨v, e1, r⟩ := S.sh i d e; ⟨v, e1, Rep.keep s pE_lg d v r⟩,
    fun i d e => let ⟨p, e1, h0, hl, o⟩ := S.ow i d e; ⟨p, e1, h0, hl, o.keep s hl.1 pE_lg⟩, S.apart, fun q hq => Rep.keep s pE_lg _ _ (S.held q hq), fun a g z => S.ghd a g (s.dom a z)⟩
theorem StR.newO (S : StR G hs σ H ds c) {o : HO} (h : H p = none) : StR G hs σ (upd H p o) ds c := S.grow (.new h) (S.winv.new h)
theorem StR.moDom (S : StR G hs σ H ds c) (h : Mo G ds σ a) : H a ≠ none := by
  rcases h with g | ⟨i, d, e, e1⟩
  · exact S.ghd a g
  obtain ⟨p, e2, _, _, o⟩ := S.ow i d e
  rw [e1] at e2; cases e2
  obtain ⟨u, h, _⟩ := o.dom
  rw [h]; simp
theorem StR.fE (S : StR G hs σ H ds c) (h : pF G H a) : pE G ds σ a := ⟨h.1, fun m => S.moDom m h.2, .inr (S.same.dom a h.2)⟩
theorem StR.fR (S : StR G hs σ H ds c) (h : pF G H a) : pR G a := ⟨h.1, .inl (S.same.dom a h.2)⟩
theorem StR.fresh (S : StR G hs σ H ds c) (h : H p = none) : pF G H p := ⟨S.winv.fresh h, h⟩

/-! ### slots are stored -/
theorem getElem?_set' {α : Type} (l : List α) (i j : Nat) (x : α) : (l.set i x)[j]? = if i = j ∧ j < l.length then some x else l[j]? := by
  rw [List.getElem?_set]
  by_cases h : i = j
  · subst h
    by_cases h2 : i < l.length
    · simp [h2]
    · simp [h2]
  · simp [h]
theorem mo_set (hl : ds.length = σ.length) {s : Sl} {v : V} (h : Mo G (ds.set i s) (σ.set i (some v)) a) (hn : ∀ d, s ≠ .ow d) : Mo G ds σ a := by
  rcases h with g | ⟨j, d, e1, e2⟩
  · exact .inl g
  rw [getElem?_set'] at e1 e2
  by_cases hj : i = j ∧ j < ds.length
  · rw [if_pos hj] at e1
    exact (hn d (Option.some.inj e1)).elim
  · rw [if_neg hj] at e1
    rw [if_neg (by rw [← hl]; exact hj)] at e2
    exact .inr ⟨j, d, e1, e2⟩
theorem StR.setSh (S : StR G hs σ H ds c) (r : Rep (pE G ds σ) H d v) : StR G hs (σ.set i (some v)) H (ds.set i (.sh d)) c := by
  have wk : ∀ a, pE G ds σ a → H a ≠ none → pE G (ds.set i (.sh d)) (σ.set i (some v)) a := fun a h _ => ⟨h.1, fun m => h.2.1 (mo_set S.len m (fun _ z => nomatch z)), h.2.2⟩
  refine ⟨S.same, S.winv, by simp [S.len], fun j d' e => ?_, fun j d' e => ?_, fun j k dj dk p e1 e2 e3 e4 => ?_, fun q hq => Rep.weak wk _ _ (S.held q hq), S.ghd⟩
  · rw [getElem?_set'] at e ⊢
    by_cases hj : i = j ∧ j < ds.length
    · rw [if_pos hj] at e
      rw [if_pos (by rw [← S.len]; exact hj)]
      cases Option.some.inj e
      exact ⟨v, rfl, Rep.weak wk _ _ r⟩
    · rw [if_neg hj] at e
      rw [if_neg (by rw [← S.len]; exact hj)]
      obtain ⟨u, e1, r1⟩ := S.sh j d' e
      exact ⟨u, e1, Rep.weak wk _ _ r1⟩
  · rw [getElem?_set'] at e ⊢
    by_cases hj : i = j ∧ j < ds.length
    · rw [if_pos hj] at e; cases Option.some.inj e
    · rw [if_neg hj] at e
      rw [if_neg (by rw [← S.len]; exact hj)]
      obtain ⟨p, e1, h0, hl, o⟩ := S.ow j d' e
      exact ⟨p, e1, h0, hl, o.imp wk⟩
  · rw [getElem?_set'] at e1 e2 e3 e4
    by_cases hj : i = j ∧ j < ds.length
    · rw [if_pos hj] at e1; cases Option.some.inj e1
    · by_cases hk : i = k ∧ k < ds.length
      · rw [if_pos hk] at e2; cases Option.some.inj e2
      · rw [if_neg hj] at e1
        rw [if_neg hk] at e2
        rw [if_neg (by rw [← S.len]; exact hj)] at e3
        rw [if_neg (by rw [← S.len]; exact hk)] at e4
        exact S.apart j k dj dk p e1 e2 e3 e4
/-- a slot is forgotten -/
theorem StR.setUn (S : StR G hs σ H ds c) {x : Option V} : StR G hs (σ.set i x) H (ds.set i .un) c := by
  have mo : ∀ a, Mo G (ds.set i .un) (σ.set i x) a → Mo G ds σ a := fun a h => by
    rcases h with g | ⟨j, d, e1, e2⟩
    · exact .inl g
    rw [getElem?_set'] at e1 e2
    by_cases hj : i = j ∧ j < ds.length
    · rw [if_pos hj] at e1; cases Option.some.inj e1
    · rw [if_neg hj] at e1
      rw [if_neg (by rw [← S.len]; exact hj)] at e2
      exact .inr ⟨j, d, e1, e2⟩
  have wk : ∀ a, pE G ds σ a → H a ≠ none → pE G (ds.set i .un) (σ.set i x) a := fun a h _ => ⟨h.1, fun m => h.2.1 (mo a m), h.2.2⟩
  refine ⟨S.same, S.winv, by simp [S.len], fun j d' e => ?_, fun j d' e => ?_, fun j k dj dk p e1 e2 e3 e4 => ?_, fun q hq => Rep.weak wk _ _ (S.held q hq), S.ghd⟩
  · rw [getElem?_set'] at e ⊢
    by_cases hj : i = j ∧ j < ds.length
    · rw [if_pos hj] at e; cases Option.some.inj e
    · rw [if_neg hj] at e
      rw [if_neg (by rw [← S.len]; exact hj)]
      obtain ⟨u, e1, r1⟩ := S.sh j d' e
      exact ⟨u, e1, Rep.weak wk _ _ r1⟩
  · rw [getElem?_set'] at e ⊢
    by_cases hj : i = j ∧ j < ds.length
    · rw [if_pos hj] at e; cases Option.some.inj e
    · rw [if_neg hj] at e
      rw [if_neg (by rw [← S.len]; exact hj)]
      obtain ⟨p, e1, h0, hl, o⟩ := S.ow j d' e
      exact ⟨p, e1, h0, hl, o.imp wk⟩
  · rw [getElem?_set'] at e1 e2 e3 e4
    by_cases hj : i = j ∧ j < ds.length
    · rw [if_pos hj] at e1; cases Option.some.inj e1
    · by_cases hk : i = k ∧ k < ds.length
      · rw [if_pos hk] at e2; cases Option.some.inj e2
      · rw [if_neg hj] at e1
        rw [if_neg hk] at e2
        rw [if_neg (by rw [← S.len]; exact hj)] at e3
        rw [if_neg (by rw [← S.len]; exact hk)] at e4
        exact S.apart j k dj dk p e1 e2 e3 e4
/-- a slot forgotten on the data's side alone -/
theorem StR.drop (S : StR G hs σ H ds c) : StR G hs σ H (ds.set i .un) c := by
  cases e : σ[i]? with
  | none =>
    have : ds.length ≤ i := by rw [S.len]; exact List.getElem?_eq_none_iff.mp e
    rw [List.set_eq_of_length_le this]; exact S
  | some x =>
    have q := S.setUn (i := i) (x := x)
    rwa [List.set_getElem?_self' e] at q
where
  List.set_getElem?_self' {α : Type} {l : List α} {i : Nat} {x : α} (h : l[i]? = some x) : l.set i x = l := by
    obtain ⟨h1, h2⟩ := List.getElem?_eq_some_iff.mp h
    rw [← h2]; exact List.set_getElem_self h1
/-- a new list or dict, made behind H1, becomes a slot's own -/
theorem StR.setOw (S1 : StR G hs σ H1 ds c1) (s : SameW G.Lg H1 H) (w : WInv G.T G.Lg c H) (hp : H1 p = none) (o : OwnOk (fun a => pE G ds σ a ∧ a ≠ p) H p d) : StR G hs (σ.set i (some (.ref p))) H (ds.set i (.ow d)) c := by
  have lp := S1.winv.fresh hp
  have mo : ∀ a, Mo G (ds.set i (.ow d)) (σ.set i (some (.ref p))) a → a = p ∨ Mo G ds σ a := fun a h => by
    rcases h with g | ⟨j, d', e1, e2⟩
    · exact .inr (.inl g)
    rw [getElem?_set'] at e1 e2
    by_cases hj : i = j ∧ j < ds.length
    · rw [if_pos (by rw [← S1.len]; exact hj)] at e2
      cases e2; exact .inl rfl
    · rw [if_neg hj] at e1
      rw [if_neg (by rw [← S1.len]; exact hj)] at e2
      exact .inr (.inr ⟨j, d', e1, e2⟩)
  have wk1 : ∀ a, pE G ds σ a → H1 a ≠ none → pE G (ds.set i (.ow d)) (σ.set i (some (.ref p))) a := fun a h n => ⟨h.1, fun m => (mo a m).elim (fun z => n (z ▸ hp)) h.2.1, h.2.2⟩
  have wk2 : ∀ a, (pE G ds σ a ∧ a ≠ p) → H a ≠ none → pE G (ds.set i (.ow d)) (σ.set i (some (.ref p))) a := fun a h n => ⟨h.1.1, fun m => (mo a m).elim h.2 h.1.2.1, h.1.2.2⟩
  refine ⟨S1.same.trans s, w, by simp [S1.len], fun j d' e => ?_, fun j d' e => ?_, fun j k dj dk q e1 e2 e3 e4 => ?_, fun q hq => Rep.keep s pE_lg _ _ (Rep.weak wk1 _ _ (S1.held q hq)), fun a g z => S1.ghd a g (s.dom a z)⟩
  · rw [getElem?_set'] at e ⊢
    by_cases hj : i = j ∧ j < ds.length
    · rw [if_pos hj] at e; cases Option.some.inj e
    · rw [if_neg hj] at e
      rw [if_neg (by rw [← S1.len]; exact hj)]
      obtain ⟨u, e1, r1⟩ := S1.sh j d' e
      exact ⟨u, e1, Rep.keep s pE_lg _ _ (Rep.weak wk1 _ _ r1)⟩
  · rw [getElem?_set'] at e ⊢
    by_cases hj : i = j ∧ j < ds.length
    · rw [if_pos hj] at e
      rw [if_pos (by rw [← S1.len]; exact hj)]
      cases Option.some.inj e
      exact ⟨p, rfl, S1.same.dom p hp, ⟨lp, fun z => S1.ghd p z hp⟩, o.imp wk2⟩
    · rw [if_neg hj] at e
      rw [if_neg (by rw [← S1.len]; exact hj)]
      obtain ⟨q, e1, h0, hl, o1⟩ := S1.ow j d' e
      exact ⟨q, e1, h0, hl, (o1.imp wk1).keep s hl.1 pE_lg⟩
  · have notp : ∀ (j : Nat) (dj : D), ds[j]? = some (.ow dj) → σ[j]? = some (some (.ref p)) → False := fun j dj e1 e2 => S1.moDom (.inr ⟨j, dj, e1, e2⟩) hp
    rw [getElem?_set'] at e1 e2 e3 e4
    by_cases hj : i = j ∧ j < ds.length
    · rw [if_pos (by rw [← S1.len]; exact hj)] at e3
      cases e3
      by_cases hk : i = k ∧ k < ds.length
      · exact hj.1.symm.trans hk.1
      · rw [if_neg hk] at e2
        rw [if_neg (by rw [← S1.len]; exact hk)] at e4
        exact (notp k dk e2 e4).elim
    · by_cases hk : i = k ∧ k < ds.length
      · rw [if_pos (by rw [← S1.len]; exact hk)] at e4
        cases e4
        rw [if_neg hj] at e1
        rw [if_neg (by rw [← S1.len]; exact hj)] at e3
        exact (notp j dj e1 e3).elim
      · rw [if_neg hj] at e1
        rw [if_neg hk] at e2
        rw [if_neg (by rw [← S1.len]; exact hj)] at e3
        rw [if_neg (by rw [← S1.len]; exact hk)] at e4
        exact S1.apart j k dj dk q e1 e2 e3 e4
/-- an own list or dict is changed in place -/
theorem StR.write (S : StR G hs σ H ds c) {d' : D} {o' : HO} (hi : ds[i]? = some (.ow d)) (hσ : σ[i]? = some (some (.ref p))) (ho : OwnOk (pE G ds σ) (upd H p o') p d') : StR G hs σ (upd H p o') (ds.set i (.ow d')) c := by
  obtain ⟨q, e, h0, hl, o⟩ := S.ow i d hi
  rw [hσ] at e; cases e
  obtain ⟨u, hu, hw⟩ := o.dom
  have hm : Mut (H p) := by rw [hu]; rcases hw with ⟨_, rfl⟩ | ⟨_, rfl⟩ <;> exact True.intro
  have mp : Mo G ds σ p := .inr ⟨i, d, hi, hσ⟩
  have np : ¬ pE G ds σ p := fun h => h.2.1 mp
  have li : i < ds.length := (List.getElem?_eq_some_iff.mp hi).1
  have mo : ∀ a, Mo G (ds.set i (.ow d')) σ a ↔ Mo G ds σ a := fun a => by
    constructor
    · rintro (g | ⟨j, dj, e1, e2⟩)
      · exact .inl g
      rw [getElem?_set'] at e1
      by_cases hj : i = j ∧ j < ds.length
      · obtain ⟨rfl, _⟩ := hj
        exact .inr ⟨i, d, hi, e2⟩
      · rw [if_neg hj] at e1
        exact .inr ⟨j, dj, e1, e2⟩
    · rintro (g | ⟨j, dj, e1, e2⟩)
      · exact .inl g
      by_cases hj : i = j
      · subst hj
        exact .inr ⟨i, d', by rw [getElem?_set', if_pos ⟨rfl, li⟩], e2⟩
      · exact .inr ⟨j, dj, by rw [getElem?_set', if_neg (fun z => hj z.1)]; exact e1, e2⟩
  have eP : pE G (ds.set i (.ow d')) σ = pE G ds σ := by
    funext a; unfold pE; rw [propext (mo a)]
  have sw : ∀ b, b ≠ p → upd H p o' b = H b := fun b hb => upd_ne hb
  refine ⟨⟨fun b u' e n1 n2 => ?_, fun b e => ?_⟩, S.winv.write hu hw hl.1, by simp [S.len], fun j dj e => ?_, fun j dj e => ?_, fun j k dj dk q e1 e2 e3 e4 => ?_, fun q hq => by rw [eP]; exact Rep.write sw hm np _ _ (S.held q hq), fun a g => ?_⟩
  · have hb : b ≠ p := fun z => by rw [z, h0] at e; cases e
    rw [sw b hb]; exact S.same.keep b u' e n1 n2
  · by_cases hb : b = p
    · rw [hb]; exact h0
    · rw [sw b hb] at e; exact S.same.dom b e
  · rw [eP]
    rw [getElem?_set'] at e
    by_cases hj : i = j ∧ j < ds.length
    · rw [if_pos hj] at e; cases Option.some.inj e
    · rw [if_neg hj] at e
      obtain ⟨v, e1, r⟩ := S.sh j dj e
      exact ⟨v, e1, Rep.write sw hm np _ _ r⟩
  · rw [eP]
    rw [getElem?_set'] at e
    by_cases hj : i = j ∧ j < ds.length
    · rw [if_pos hj] at e
      cases Option.some.inj e
      obtain ⟨rfl, _⟩ := hj
      exact ⟨p, hσ, h0, hl, ho⟩
    · rw [if_neg hj] at e
      obtain ⟨q, e1, q0, ql, oq⟩ := S.ow j dj e
      have hq : q ≠ p := fun z => by
        subst z
        exact hj ⟨S.apart i j d dj q hi e hσ e1, (List.getElem?_eq_some_iff.mp e).1⟩
      exact ⟨q, e1, q0, ql, oq.write sw hm np hq⟩
  · have back : ∀ {k : Nat} {x : D}, (ds.set i (.ow d'))[k]? = some (.ow x) → ∃ y, ds[k]? = some (.ow y) := fun {k x} e => by
      rw [getElem?_set'] at e
      by_cases hk : i = k ∧ k < ds.length
      · obtain ⟨rfl, _⟩ := hk
        exact ⟨d, hi⟩
      · rw [if_neg hk] at e
        exact ⟨x, e⟩
    obtain ⟨y1, f1⟩ := back e1
    obtain ⟨y2, f2⟩ := back e2
    exact S.apart j k y1 y2 q f1 f2 e3 e4
  · have := S.ghd a g
    by_cases ha : a = p
    · subst ha; rw [upd_same]; simp
    · rw [sw a ha]; exact this
/-- an own list or dict becomes shared -/
theorem StR.freeze (S : StR G hs σ H ds c) (hi : ds[i]? = some (.ow d)) : StR G hs σ H (ds.set i (.sh d)) c := by
  obtain ⟨p, e, h0, hl, o⟩ := S.ow i d hi
  have li : i < ds.length := (List.getElem?_eq_some_iff.mp hi).1
  have mo : ∀ a, Mo G (ds.set i (.sh d)) σ a → Mo G ds σ a ∧ a ≠ p := fun a h => by
    rcases h with g | ⟨j, dj, e1, e2⟩
    · exact ⟨.inl g, fun z => hl.2 (z ▸ g)⟩
    rw [getElem?_set'] at e1
    by_cases hj : i = j ∧ j < ds.length
    · rw [if_pos hj] at e1; cases Option.some.inj e1
    · rw [if_neg hj] at e1
      refine ⟨.inr ⟨j, dj, e1, e2⟩, fun z => ?_⟩
      subst z
      exact hj ⟨S.apart i j d dj a hi e1 e e2, (List.getElem?_eq_some_iff.mp e1).1⟩
  have wk : ∀ a, pE G ds σ a → H a ≠ none → pE G (ds.set i (.sh d)) σ a := fun a h _ => ⟨h.1, fun m => h.2.1 (mo a m).1, h.2.2⟩
  have pp : pE G (ds.set i (.sh d)) σ p := ⟨hl.1, fun m => (mo p m).2 rfl, .inr h0⟩
  refine ⟨S.same, S.winv, by simp [S.len], fun j dj e' => ?_, fun j dj e' => ?_, fun j k dj dk q e1 e2 e3 e4 => ?_, fun q hq => Rep.weak wk _ _ (S.held q hq), S.ghd⟩
  · rw [getElem?_set'] at e'
    by_cases hj : i = j ∧ j < ds.length
    · rw [if_pos hj] at e'
      cases Option.some.inj e'
      obtain ⟨rfl, _⟩ := hj
      refine ⟨_, e, ?_⟩
      cases d with
      | lst xs => obtain ⟨vs, h1, h2⟩ := o; simp only [Rep]; exact ⟨p, vs, rfl, pp, h1, RepL.weak wk _ _ h2⟩
      | dct ks es => obtain ⟨vs, h1, h2, h3⟩ := o; simp only [Rep]; exact ⟨p, vs, rfl, pp, h1, h2, RepL.weak wk _ _ h3⟩
      | _ => exact o.elim
    · rw [if_neg hj] at e'
      obtain ⟨v, e1, r⟩ := S.sh j dj e'
      exact ⟨v, e1, Rep.weak wk _ _ r⟩
  · rw [getElem?_set'] at e'
    by_cases hj : i = j ∧ j < ds.length
    · rw [if_pos hj] at e'; cases Option.some.inj e'
    · rw [if_neg hj] at e'
      obtain ⟨q, e1, q0, ql, oq⟩ := S.ow j dj e'
      exact ⟨q, e1, q0, ql, oq.imp wk⟩
  · rw [getElem?_set'] at e1 e2
    by_cases hj : i = j ∧ j < ds.length
    · rw [if_pos hj] at e1; cases Option.some.inj e1
    · by_cases hk : i = k ∧ k < ds.length
      · rw [if_pos hk] at e2; cases Option.some.inj e2
      · rw [if_neg hj] at e1
        rw [if_neg hk] at e2
        exact S.apart j k dj dk q e1 e2 e3 e4
end

/-! ### the judgements -/
abbrev DE := DSt → Nat → (D → Nat → Prop) → Prop
abbrev DT := DSt → Nat → (Bool → Nat → Prop) → Prop
abbrev DA := DSt → Nat → (List D → Nat → Prop) → Prop
structure DK where
  nx : DSt → Nat → Prop
  rt : D → Nat → Prop
  bk : DSt → Nat → Prop := fun _ _ => False
  ct : DSt → Nat → Prop := fun _ _ => False
abbrev DS := DK → DSt → Nat → Prop
structure VE (m : Md) (X : Cx) (G : Gc) (e : Expr) (f : DE) : Prop where
  ex : ∃ t, PE X e t ∧ ∀ hs σ H ds c Qd Q, StR G hs σ H ds c → f ds c Qd → (∀ v H' d c', StR G hs σ H' ds c' → SameW G.Lg H H' → RepM m G ds σ H H' d v → Qd d c' → Q v H') → t σ H Q
structure VT (X : Cx) (G : Gc) (e : Expr) (f : DT) : Prop where
  ex : ∃ t, PT X e t ∧ ∀ hs σ H ds c Qd Q, StR G hs σ H ds c → f ds c Qd → (∀ b H' c', StR G hs σ H' ds c' → SameW G.Lg H H' → Qd b c' → Q b H') → t σ H Q
structure VW (X : Cx) (G : Gc) (e : Expr) (f : DT) : Prop where
  ex : ∃ t, PW X e t ∧ ∀ hs σ H ds c Qd Q, StR G hs σ H ds c → f ds c Qd → (∀ b H' c', StR G hs σ H' ds c' → SameW G.Lg H H' → Qd b c' → Q b H') → t σ H Q
structure VA (m : Md) (X : Cx) (G : Gc) (es : List Expr) (f : DA) : Prop where
  ex : ∃ t, PA X es t ∧ ∀ hs σ H ds c Qd Q, StR G hs σ H ds c → f ds c Qd → (∀ vs H' xs c', StR G hs σ H' ds c' → SameW G.Lg H H' → RepL (innP G ds σ H m) H' xs vs → Qd xs c' → Q vs H') → t σ H Q
structure EndsOk (G : Gc) (hs : List (D × V)) (K : DK) (E : Ends) : Prop where
  nx : ∀ σ H ds c, StR G hs σ H ds c → K.nx ds c → E.nx σ H
  rt : ∀ σ H ds c v d, StR G hs σ H ds c → Rep (pR G) H d v → K.rt d c → E.rt v H
  bk : ∀ σ H ds c, StR G hs σ H ds c → K.bk ds c → E.bk σ H
  ct : ∀ σ H ds c, StR G hs σ H ds c → K.ct ds c → E.ct σ H
structure VS (X : Cx) (G : Gc) (st : Stmt) (g : DS) : Prop where
  ex : ∃ t, PS X st t ∧ ∀ hs σ H ds c K E, StR G hs σ H ds c → g K ds c → EndsOk G hs K E → t E σ H
structure VSs (X : Cx) (G : Gc) (st : List Stmt) (g : DS) : Prop where
  ex : ∃ t, PSs X st t ∧ ∀ hs σ H ds c K E, StR G hs σ H ds c → g K ds c → EndsOk G hs K E → t E σ H
/-- what is wished of an exception -/
structure GOk (X : Cx) (G : Gc) : Prop where
  tk : L2N.Takes X G.W
  link : ∀ x hs ds c σ H, StR G hs σ H ds c → G.ep x ds c → G.W (.ref (G.ca x)) none σ H
end DL

set_option Elab.async false
set_option linter.all false
set_option maxRecDepth 100000
set_option maxHeartbeats 4000000
/-! DL3: expressions. -/
namespace DL
open PySem PySem.Spec L2

/-! ### from mode to mode -/
def Md.le : Md → Md → Bool
  | .N, _ => true
  | .O, .O => true | .O, .E => true | .O, .T => true | .O, .B => true
  | .E, .E => true | .E, .T => true | .E, .B => true
  | .T, .T => true | .T, .B => true
  | .R, .R => true | .R, .B => true
  | .B, .B => true
  | _, _ => false
section
variable {G : Gc} {hs : List (D × V)} {σ : St} {H H' H1 H2 : Hp} {ds : DSt} {c c' c1 : Nat} {d : D} {v : V} {a : Addr}
theorem topP_up (S : StR G hs σ H ds c) {m m' : Md} (h : Md.le m m' = true) (a : Addr) (p : topP G ds σ H m a) : topP G ds σ H m' a := by
  cases m <;> cases m' <;> first
    | exact p
    | exact absurd h (by decide)
    | exact p.1
    | exact S.fE p
    | exact S.fR p
theorem innP_up (S : StR G hs σ H ds c) {m m' : Md} (h : Md.le m m' = true) (a : Addr) (p : innP G ds σ H m a) : innP G ds σ H m' a := by
  cases m <;> cases m' <;> first
    | exact p
    | exact absurd h (by decide)
    | exact p.1
    | exact S.fE p
    | exact S.fR p
theorem RepM.up (S : StR G hs σ H ds c) {m m' : Md} (h : Md.le m m' = true) (r : RepM m G ds σ H H' d v) : RepM m' G ds σ H H' d v := Rep2.imp (fun a p _ => topP_up S h a p) (fun a p _ => innP_up S h a p) r
/-- told from an earlier heap -/
theorem topP_back (s : SameW G.Lg H H1) {m : Md} (a : Addr) (p : topP G ds σ H1 m a) : topP G ds σ H m a := by
  cases m <;> first
    | exact p
    | exact ⟨p.1, s.dom a p.2⟩
theorem innP_back (s : SameW G.Lg H H1) {m : Md} (a : Addr) (p : innP G ds σ H1 m a) : innP G ds σ H m a := by
  cases m <;> first
    | exact p
    | exact ⟨p.1, s.dom a p.2⟩
theorem RepM.back (s : SameW G.Lg H H1) {m : Md} (r : RepM m G ds σ H1 H' d v) : RepM m G ds σ H H' d v := Rep2.imp (fun a p _ => topP_back s a p) (fun a p _ => innP_back s a p) r
theorem repB {m : Md} (r : RepM m G ds σ H H' d v) : Rep (pB G) H' d v := rep2_self.mp (Rep2.imp (fun a p _ => topP_lg m a p) (fun a p _ => innP_lg m a p) r)
theorem repLB {m : Md} {xs : List D} {vs : List V} (r : RepL (innP G ds σ H m) H' xs vs) : RepL (pB G) H' xs vs := RepL.weak (fun a p _ => innP_lg m a p) _ _ r
theorem repN (r : Rep (pF G H) H' d v) : RepM .N G ds σ H H' d v := rep2_self.mpr r
theorem repFlat {P P' : Addr → Prop} (f : flat d = true) (r : Rep P H d v) : Rep P' H d v := Rep.flat d v f r
theorem flatL_all : ∀ {xs : List D}, flatL xs = true ↔ ∀ d ∈ xs, flat d = true
  | [] => by simp [flatL]
  | d :: ds => by simp [flatL, flatL_all (xs := ds)]
theorem flatL_app {xs ys : List D} : flatL (xs ++ ys) = (flatL xs && flatL ys) := by
  rw [Bool.eq_iff_iff]
  simp only [Bool.and_eq_true, flatL_all, List.mem_append]
  constructor
  · intro h; exact ⟨fun d m => h d (.inl m), fun d m => h d (.inr m)⟩
  · rintro ⟨h1, h2⟩ d (m | m)
    · exact h1 d m
    · exact h2 d m
end
section
variable {X : Cx} {G : Gc} {e a b : Expr} {f g : DE} {m m' : Md} {pos : Pos}
theorem VE.up (h : VE m X G e f) (hm : Md.le m m' = true := by rfl) : VE m' X G e f := by
  obtain ⟨t, ht, hi⟩ := h.ex
  exact ⟨t, ht, fun hs σ H ds c Qd Q S q k => hi hs σ H ds c Qd Q S q fun v H' d c' S' s' r q' => k v H' d c' S' s' (RepM.up S hm r) q'⟩
/-- flat data is new data -/
def eFl (f : DE) : DE := fun ds c Q => f ds c fun d c' => flat d = true ∧ Q d c'
theorem VE.fl (h : VE m X G e f) : VE .N X G e (eFl f) := by
  obtain ⟨t, ht, hi⟩ := h.ex
  refine ⟨t, ht, fun hs σ H ds c Qd Q S q k => hi hs σ H ds c _ Q S q fun v H' d c' S' s' r q' => k v H' d c' S' s' ?_ q'.2⟩
  exact repN (repFlat q'.1 (repB r))
/-- a new list of flat items -/
def elF : D → Bool
  | .lst xs => flatL xs
  | .dct _ vs => flatL vs
  | d => flat d
def eCk (f : DE) : DE := fun ds c Q => f ds c fun d c' => elF d = true ∧ Q d c'
theorem VE.ck (h : VE .O X G e f) : VE .N X G e (eCk f) := by
  obtain ⟨t, ht, hi⟩ := h.ex
  refine ⟨t, ht, fun hs σ H ds c Qd Q S q k => hi hs σ H ds c _ Q S q fun v H' d c' S' s' r q' => k v H' d c' S' s' ?_ q'.2⟩
  obtain ⟨f1, q1⟩ := q'
  cases d with
  | lst xs => obtain ⟨a, vs, e, p, r1, t1⟩ := r; exact ⟨a, vs, e, p, r1, RepL.flat _ _ f1 t1⟩
  | dct ks es => obtain ⟨a, vs, e, p, r1, r2, t1⟩ := r; exact ⟨a, vs, e, p, r1, r2, RepL.flat _ _ f1 t1⟩
  | _ => exact repN (repFlat f1 (repB r))
theorem VE.er (hmd : G.md = true) (h : VE .E X G e f) : VE .R X G e f := by
  obtain ⟨t, ht, hi⟩ := h.ex
  refine ⟨t, ht, fun hs σ H ds c Qd Q S q k => hi hs σ H ds c _ Q S q fun v H' d c' S' s' r q' => k v H' d c' S' s' ?_ q'⟩
  have w : ∀ a, pE G ds σ a → H' a ≠ none → pR G a := fun a p _ => ⟨p.1, p.2.2.elim (fun z => .inr ⟨hmd, z⟩) .inl⟩
  exact Rep2.imp w w r

/-! ### names, constants -/
/-- the slot i -/
def eV (i : Nat) : DE := fun ds c Q => match ds[i]? with
  | some (.sh d) => Q d c
  | some (.ow d) => Q d c
  | _ => False
def eS (i : Nat) : DE := fun ds c Q => match ds[i]? with
  | some (.sh d) => Q d c
  | _ => False
def eR (i : Nat) : DE := fun ds c Q => match ds[i]? with
  | some (.sh d) => flat d = true ∧ Q d c
  | some (.ow d) => elF d = true ∧ Q d c
  | _ => False
def eC (d : D) : DE := fun _ c Q => Q d c
variable {x : Str} {i : Nat}
theorem ve_T (hN : X.N[i]? = some x) (hv : Vis X.env.scope x) (hd : (x == ("__debug__" : Str)) = false := by decide) (hcd : (x == ("__classdict__" : Str)) = false := by decide) : VE .T X G (.Name x pos) (eV i) := by
  refine ⟨_, pe_var hN hv hd hcd, fun hs σ H ds c Qd Q S q k => ?_⟩
  unfold eV at q
  split at q
  · rename_i d e
    obtain ⟨v, e1, r⟩ := S.sh i d e
    refine ⟨v, e1, k v H d c S .refl ?_ q⟩
    exact Rep2.imp (fun a p _ => p.1) (fun a p _ => p) (rep2_self.mpr r)
  · rename_i d e
    obtain ⟨p, e1, h0, hl, o⟩ := S.ow i d e
    refine ⟨_, e1, k _ H d c S .refl ?_ q⟩
    cases d with
    | lst xs => obtain ⟨vs, h1, h2⟩ := o; exact ⟨p, vs, rfl, hl.1, h1, h2⟩
    | dct ks es => obtain ⟨vs, h1, h2, h3⟩ := o; exact ⟨p, vs, rfl, hl.1, h1, h2, h3⟩
    | _ => exact o.elim
  · exact q.elim
theorem ve_E (hN : X.N[i]? = some x) (hv : Vis X.env.scope x) (hd : (x == ("__debug__" : Str)) = false := by decide) (hcd : (x == ("__classdict__" : Str)) = false := by decide) : VE .E X G (.Name x pos) (eS i) := by
  refine ⟨_, pe_var hN hv hd hcd, fun hs σ H ds c Qd Q S q k => ?_⟩
  unfold eS at q
  split at q
  · rename_i d e
    obtain ⟨v, e1, r⟩ := S.sh i d e
    exact ⟨v, e1, k v H d c S .refl (rep2_self.mpr r) q⟩
  · exact q.elim
theorem ve_R (hN : X.N[i]? = some x) (hv : Vis X.env.scope x) (hd : (x == ("__debug__" : Str)) = false := by decide) (hcd : (x == ("__classdict__" : Str)) = false := by decide) : VE .R X G (.Name x pos) (eR i) := by
  refine ⟨_, pe_var hN hv hd hcd, fun hs σ H ds c Qd Q S q k => ?_⟩
  unfold eR at q
  split at q
  · rename_i d e
    obtain ⟨v, e1, r⟩ := S.sh i d e
    exact ⟨v, e1, k v H d c S .refl (rep2_self.mpr (repFlat q.1 r)) q.2⟩
  · rename_i d e
    obtain ⟨p, e1, h0, hl, o⟩ := S.ow i d e
    refine ⟨_, e1, k _ H d c S .refl ?_ q.2⟩
    cases d with
    | lst xs => obtain ⟨vs, h1, h2⟩ := o; exact ⟨p, vs, rfl, ⟨hl.1, .inl h0⟩, h1, RepL.flat _ _ q.1 h2⟩
    | dct ks es => obtain ⟨vs, h1, h2, h3⟩ := o; exact ⟨p, vs, rfl, ⟨hl.1, .inl h0⟩, h1, h2, RepL.flat _ _ q.1 h3⟩
    | _ => exact o.elim
  · exact q.elim
theorem ve_tC {d : D} {v : V} (h : PE X e (tC v)) (r : ∀ P H, Rep P H d v) : VE .N X G e (eC d) := by
  refine ⟨_, h, fun hs σ H ds c Qd Q S q k => ?_⟩
  exact k v H d c S .refl (repN (r _ _)) q
theorem ve_int {n : Int} {j} : VE .N X G (.Constant (.int n) j pos) (eC (.int n)) := ve_tC pe_int fun _ _ => by simp only [Rep]
theorem ve_bl {n : Bool} {j} : VE .N X G (.Constant (.bool n) j pos) (eC (.bl n)) := ve_tC pe_bl fun _ _ => by simp only [Rep]
theorem ve_non {j} : VE .N X G (.Constant .none j pos) (eC .non) := ve_tC pe_non fun _ _ => by simp only [Rep]
theorem ve_str {n : Str} {j} : VE .N X G (.Constant (.str n) j pos) (eC (.str n)) := ve_tC pe_str fun _ _ => by simp only [Rep]
theorem ve_gint {n : Int} {t : Tok} (hg : Gl X x) (hm : X.mg x = some (.int n t)) (hd : (x == ("__debug__" : Str)) = false := by decide) : VE .N X G (.Name x pos) (eC (.int n)) := ve_tC (v := .int n) (pe_glob hg hm ⟨t, rfl⟩ hd) fun _ _ => by simp only [Rep]
theorem ve_gstr {n : Str} {t : Tok} (hg : Gl X x) (hm : X.mg x = some (.str n t)) (hd : (x == ("__debug__" : Str)) = false := by decide) : VE .N X G (.Name x pos) (eC (.str n)) := ve_tC (v := .str n) (pe_glob hg hm ⟨t, rfl⟩ hd) fun _ _ => by simp only [Rep]

/-! ### operators -/
def opt (o : Option D) (c : Nat) (Q : D → Nat → Prop) : Prop := match o with
  | some d => Q d c
  | none => False
def eOp1 (op : D → Option D) (f : DE) : DE := fun ds c Q => f ds c fun x c1 => opt (op x) c1 Q
def eOp2 (op : D → D → Option D) (f g : DE) : DE := fun ds c Q => f ds c fun x c1 => g ds c1 fun y c2 => opt (op x y) c2 Q
theorem opt_some {o : Option D} {c : Nat} {Q : D → Nat → Prop} (h : opt o c Q) : ∃ d, o = some d ∧ Q d c := by
  cases o with
  | none => exact h.elim
  | some d => exact ⟨d, rfl, h⟩
/-- nothing changed, or a new object -/
def Nw (H H' : Hp) : Prop := H' = H ∨ ∃ p o, H p = none ∧ H' = upd H p o
theorem Nw.here {H : Hp} : Nw H H := .inl rfl
theorem Nw.new {H : Hp} {p : Addr} {o : HO} (h : H p = none) : Nw H (upd H p o) := .inr ⟨p, o, h, rfl⟩
theorem Nw.sw {Lg : Lgs} {H H' : Hp} (n : Nw H H') : SameW Lg H H' := by
  rcases n with rfl | ⟨p, o, h, rfl⟩
  · exact .refl
  · exact .new h
theorem Nw.wi {T : List NdefX.NTab} {Lg : Lgs} {c : Nat} {H H' : Hp} (n : Nw H H') (w : WInv T Lg c H) : WInv T Lg c H' := by
  rcases n with rfl | ⟨p, o, h, rfl⟩
  · exact w
  · exact w.new h
/-- what an operation's rule is to show -/
def Snd2 (G : Gc) (op : D → D → Option D) (r : R2) : Prop := ∀ (H : Hp) (c : Nat) (x y : D) (u w : V) (d : D) (Q : VK), WInv G.T G.Lg c H → Rep (pB G) H x u → Rep (pB G) H y w → op x y = some d → (∀ v H', Nw H H' → Rep (pF G H) H' d v → Q v H') → r u w H Q
def Snd1 (G : Gc) (op : D → Option D) (r : V → Hp → VK → Prop) : Prop := ∀ (H : Hp) (c : Nat) (x : D) (u : V) (d : D) (Q : VK), WInv G.T G.Lg c H → Rep (pB G) H x u → op x = some d → (∀ v H', Nw H H' → Rep (pF G H) H' d v → Q v H') → r u H Q
theorem ve_op2 {op : D → D → Option D} {r : R2} (ha : VE .B X G a f) (hb : VE .B X G b g) (mk : ∀ ta tb, PE X a ta → PE X b tb → PE X e (tOp r ta tb)) (snd : Snd2 G op r) : VE .N X G e (eOp2 op f g) := by
  obtain ⟨ta, pa, ia⟩ := ha.ex
  obtain ⟨tb, pb, ib⟩ := hb.ex
  refine ⟨_, mk ta tb pa pb, fun hs σ H ds c Qd Q S q k => ?_⟩
  refine ia hs σ H ds c _ _ S q fun v1 H1 d1 c1 S1 s1 r1 q1 => ?_
  refine ib hs σ H1 ds c1 _ _ S1 q1 fun v2 H2 d2 c2 S2 s2 r2 q2 => ?_
  obtain ⟨d, e, q3⟩ := opt_some q2
  refine snd H2 c2 d1 d2 v1 v2 d Q S2.winv (Rep.keep s2 (fun a z => z) _ _ (repB r1)) (repB r2) e fun v H' n rr => ?_
  exact k v H' d c2 (S2.grow n.sw (n.wi S2.winv)) ((s1.trans s2).trans n.sw) (RepM.back (s1.trans s2) (repN rr)) q3
theorem ve_op1 {op : D → Option D} {r : V → Hp → VK → Prop} (ha : VE .B X G a f) (mk : ∀ ta, PE X a ta → PE X e (tUn r ta)) (snd : Snd1 G op r) : VE .N X G e (eOp1 op f) := by
  obtain ⟨ta, pa, ia⟩ := ha.ex
  refine ⟨_, mk ta pa, fun hs σ H ds c Qd Q S q k => ?_⟩
  refine ia hs σ H ds c _ _ S q fun v1 H1 d1 c1 S1 s1 r1 q1 => ?_
  obtain ⟨d, e, q3⟩ := opt_some q1
  refine snd H1 c1 d1 v1 d Q S1.winv (repB r1) e fun v H' n rr => ?_
  exact k v H' d c1 (S1.grow n.sw (n.wi S1.winv)) (s1.trans n.sw) (RepM.back s1 (repN rr)) q3
end

/-! ### reading what a value bears -/
section
variable {P : Addr → Prop} {H : Hp} {v : V}
theorem rep_int {i : Int} : Rep P H (.int i) v ↔ v = .int i := by simp only [Rep]
theorem rep_bl {i : Bool} : Rep P H (.bl i) v ↔ v = .bl i := by simp only [Rep]
theorem rep_str {i : Str} : Rep P H (.str i) v ↔ v = .str i := by simp only [Rep]
theorem rep_non : Rep P H .non v ↔ v = .non := by simp only [Rep]
theorem rep_lst {xs : List D} : Rep P H (.lst xs) v ↔ ∃ a vs, v = .ref a ∧ P a ∧ H a = some (.lst vs) ∧ RepL P H xs vs := by simp only [Rep]
theorem rep_tup {xs : List D} : Rep P H (.tup xs) v ↔ ∃ a vs, v = .ref a ∧ H a = some (.tup vs) ∧ RepL P H xs vs := by simp only [Rep]
theorem rep_scr {xs : List Int} : Rep P H (.scr xs) v ↔ ∃ a o, v = .ref a ∧ H a = some (.frz o (.lst (xs.map .int))) := by simp only [Rep]
theorem rep_dct {ks : List Key} {es : List D} : Rep P H (.dct ks es) v ↔ ∃ a kvs, v = .ref a ∧ P a ∧ H a = some (.dK kvs) ∧ kvs.map (·.1) = ks ∧ RepL P H es (kvs.map (·.2)) := by simp only [Rep]
theorem repL_ints : ∀ {ns : List Int} {vs : List V}, RepL P H (ns.map .int) vs ↔ vs = ns.map .int
  | [], vs => by simp [RepL]
  | n :: ns, vs => by
    simp only [List.map_cons, RepL, rep_int]
    constructor
    · rintro ⟨v, r, rfl, rfl, h⟩
      rw [repL_ints.mp h]
    · rintro rfl
      exact ⟨_, _, rfl, rfl, repL_ints.mpr rfl⟩
theorem repL_strs : ∀ {ns : List Str} {vs : List V}, RepL P H (ns.map .str) vs ↔ vs = ns.map .str
  | [], vs => by simp [RepL]
  | n :: ns, vs => by
    simp only [List.map_cons, RepL, rep_str]
    constructor
    · rintro ⟨v, r, rfl, rfl, h⟩
      rw [repL_strs.mp h]
    · rintro rfl
      exact ⟨_, _, rfl, rfl, repL_strs.mpr rfl⟩
end
/-- a new list of flat items bears them -/
theorem newLst {G : Gc} {T : List NdefX.NTab} {c : Nat} {H : Hp} {p : Addr} {xs : List D} {vs : List V} (w : WInv T G.Lg c H) (hp : H p = none) (f : flatL xs = true) {P : Addr → Prop} (r : RepL P H xs vs) : Rep (pF G H) (upd H p (.lst vs)) (.lst xs) (.ref p) :=
  rep_lst.mpr ⟨p, vs, rfl, ⟨w.fresh hp, hp⟩, upd_same, RepL.keep (.new (Lg := fun _ => none) hp) (fun _ _ => rfl) _ _ (RepL.flat _ _ f r)⟩
theorem newTup {G : Gc} {H : Hp} {p : Addr} {xs : List D} {vs : List V} (hp : H p = none) (f : flatL xs = true) {P : Addr → Prop} (r : RepL P H xs vs) : Rep (pF G H) (upd H p (.tup vs)) (.tup xs) (.ref p) :=
  rep_tup.mpr ⟨p, vs, rfl, upd_same, RepL.keep (.new (Lg := fun _ => none) hp) (fun _ _ => rfl) _ _ (RepL.flat _ _ f r)⟩

/-! ### arithmetic -/
def dInt (g : Int → Int → Option Int) : D → D → Option D
  | .int i, .int j => (g i j).map .int
  | _, _ => none
theorem snd_int {G : Gc} {C : Int → Int → Prop} {h : Int → Int → Int} {g : Int → Int → Option Int} (hg : ∀ i j k, g i j = some k → C i j ∧ k = h i j) : Snd2 G (dInt g) (rI C fun i j => .int (h i j)) := by
  intro H c x y u w d Q W r1 r2 e k
  unfold dInt at e
  split at e
  · rename_i i j
    rw [rep_int] at r1 r2
    subst r1 r2
    cases eg : g i j with
    | none => rw [eg] at e; cases e
    | some z =>
      rw [eg] at e
      cases Option.some.inj e
      obtain ⟨hc, rfl⟩ := hg i j z eg
      exact ⟨i, j, rfl, rfl, hc, k _ _ .here (rep_int.mpr rfl)⟩
  · cases e
theorem snd_int0 {G : Gc} {h : Int → Int → Int} : Snd2 G (dInt fun i j => some (h i j)) (rI0 fun i j => .int (h i j)) := by
  intro H c x y u w d Q W r1 r2 e k
  unfold dInt at e
  split at e
  · rename_i i j
    rw [rep_int] at r1 r2
    subst r1 r2
    cases Option.some.inj e
    exact ⟨i, j, rfl, rfl, k _ _ .here (rep_int.mpr rfl)⟩
  · cases e
/-- two rules for one operation -/
theorem snd_or {G : Gc} {op1 op2 op : D → D → Option D} {r1 r2 : R2} (h1 : Snd2 G op1 r1) (h2 : Snd2 G op2 r2) (h : ∀ x y d, op x y = some d → op1 x y = some d ∨ op2 x y = some d) : Snd2 G op (fun x y H Q => r1 x y H Q ∨ r2 x y H Q) := by
  intro H c x y u w d Q W ra rb e k
  rcases h x y d e with z | z
  · exact .inl (h1 H c x y u w d Q W ra rb z k)
  · exact .inr (h2 H c x y u w d Q W ra rb z k)
/-- + of ints, texts, lists of flat items -/
def dAdd : D → D → Option D
  | .int i, .int j => some (.int (i + j))
  | .str x, .str y => if x.length + y.length ≤ sizeLine then some (.str (x ++ y)) else none
  | .lst xs, .lst ys => if xs.length + ys.length ≤ sizeLine ∧ flatL xs = true ∧ flatL ys = true then some (.lst (xs ++ ys)) else none
  | _, _ => none
abbrev rAddAll : R2 := fun x y H Q => (rI0 fun i j => .int (i + j)) x y H Q ∨ ((∃ i j, x = .str i ∧ y = .str j ∧ i.length + j.length ≤ sizeLine ∧ Q (.str (i ++ j)) H) ∨ rCat x y H Q)
theorem snd_add {G : Gc} : Snd2 G dAdd rAddAll := by
  intro H c x y u w d Q W ra rb e k
  unfold dAdd at e
  split at e
  · rw [rep_int] at ra rb
    subst ra rb
    cases Option.some.inj e
    exact .inl ⟨_, _, rfl, rfl, k _ _ .here (rep_int.mpr rfl)⟩
  · rw [rep_str] at ra rb
    subst ra rb
    split at e
    · rename_i hz
      cases Option.some.inj e
      exact .inr (.inl ⟨_, _, rfl, rfl, hz, k _ _ .here (rep_str.mpr rfl)⟩)
    · cases e
  · split at e
    · rename_i hz
      cases Option.some.inj e
      rw [rep_lst] at ra rb
      obtain ⟨p, vs, rfl, _, h1, t1⟩ := ra
      obtain ⟨q, us, rfl, _, h2, t2⟩ := rb
      refine .inr (.inr ⟨p, q, vs, us, rfl, rfl, h1, h2, by rw [t1.len, t2.len]; exact hz.1, fun z hz' => k _ _ (.new hz') ?_⟩)
      exact newLst W hz' (by rw [flatL_app, hz.2.1, hz.2.2]; rfl) (t1.append t2)
    · cases e
  · cases e
section
variable {X : Cx} {G : Gc} {e a b : Expr} {f g : DE} {pos : Pos}
theorem ve_add (ha : VE .B X G a f) (hb : VE .B X G b g) : VE .N X G (.BinOp a .Add b pos) (eOp2 dAdd f g) := ve_op2 ha hb (fun _ _ pa pb => pe_op (op_add.or (op_add_str.or op_cat)) pa pb) snd_add
def dSub : D → D → Option D := dInt fun i j => some (i - j)
theorem ve_sub (ha : VE .B X G a f) (hb : VE .B X G b g) : VE .N X G (.BinOp a .Sub b pos) (eOp2 dSub f g) := ve_op2 ha hb (fun _ _ pa pb => pe_op op_sub pa pb) snd_int0
/-- % by a positive number -/
def dMod : D → D → Option D := dInt fun i j => if 0 < j then some (i % j) else none
theorem ve_mod (ha : VE .B X G a f) (hb : VE .B X G b g) : VE .N X G (.BinOp a .Mod b pos) (eOp2 dMod f g) := ve_op2 ha hb (fun _ _ pa pb => pe_op op_mod pa pb) (snd_int fun i j k h => by
  split at h
  · exact ⟨by assumption, (Option.some.inj h).symm⟩
  · cases h)
/-- // by a positive number below 2 ^ 30 -/
def dDiv : D → D → Option D := dInt fun i j => if 0 < j ∧ j < 1073741824 then some (i / j) else none
theorem ve_div (ha : VE .B X G a f) (hb : VE .B X G b g) : VE .N X G (.BinOp a .FloorDiv b pos) (eOp2 dDiv f g) := ve_op2 ha hb (fun _ _ pa pb => pe_op op_fdiv pa pb) (snd_int fun i j k h => by
  split at h
  · exact ⟨by assumption, (Option.some.inj h).symm⟩
  · cases h)
def dPow : D → D → Option D := dInt fun i j => if 0 ≤ j ∧ j ≤ 1000000 ∧ i.natAbs < 2 ^ 64 then some (i ^ j.toNat) else none
theorem ve_pow (ha : VE .B X G a f) (hb : VE .B X G b g) : VE .N X G (.BinOp a .Pow b pos) (eOp2 dPow f g) := ve_op2 ha hb (fun _ _ pa pb => pe_op op_pow pa pb) (snd_int fun i j k h => by
  split at h
  · exact ⟨by assumption, (Option.some.inj h).symm⟩
  · cases h)
def dShl : D → D → Option D := dInt fun i j => if 0 ≤ j ∧ j ≤ 1000000 ∧ i.natAbs < 2 ^ 64 then some (i * 2 ^ j.toNat) else none
theorem ve_shl (ha : VE .B X G a f) (hb : VE .B X G b g) : VE .N X G (.BinOp a .LShift b pos) (eOp2 dShl f g) := ve_op2 ha hb (fun _ _ pa pb => pe_op op_shl pa pb) (snd_int fun i j k h => by
  split at h
  · exact ⟨by assumption, (Option.some.inj h).symm⟩
  · cases h)
def dShr : D → D → Option D := dInt fun i j => if 0 ≤ j then some (i / 2 ^ j.toNat) else none
theorem ve_shr (ha : VE .B X G a f) (hb : VE .B X G b g) : VE .N X G (.BinOp a .RShift b pos) (eOp2 dShr f g) := ve_op2 ha hb (fun _ _ pa pb => pe_op op_shr pa pb) (snd_int fun i j k h => by
  split at h
  · exact ⟨by assumption, (Option.some.inj h).symm⟩
  · cases h)
def dAnd : D → D → Option D := dInt fun i j => some (Builtin.bitAnd i j)
theorem ve_and_ (ha : VE .B X G a f) (hb : VE .B X G b g) : VE .N X G (.BinOp a .BitAnd b pos) (eOp2 dAnd f g) := ve_op2 ha hb (fun _ _ pa pb => pe_op op_and pa pb) snd_int0
def dOr : D → D → Option D := dInt fun i j => some (Builtin.bitOr i j)
theorem ve_or_ (ha : VE .B X G a f) (hb : VE .B X G b g) : VE .N X G (.BinOp a .BitOr b pos) (eOp2 dOr f g) := ve_op2 ha hb (fun _ _ pa pb => pe_op op_or pa pb) snd_int0
def dXor : D → D → Option D := dInt fun i j => some (Builtin.bitXor i j)
theorem ve_xor (ha : VE .B X G a f) (hb : VE .B X G b g) : VE .N X G (.BinOp a .BitXor b pos) (eOp2 dXor f g) := ve_op2 ha hb (fun _ _ pa pb => pe_op op_xor pa pb) snd_int0
/-- * of ints, of a list of flat items by an int -/
def dMul : D → D → Option D
  | .int i, .int j => if (-(2 ^ 64) < i ∧ i < 2 ^ 64) ∨ (-(2 ^ 64) < j ∧ j < 2 ^ 64) then some (.int (i * j)) else none
  | .lst xs, .int k => if k < 2 ^ 63 ∧ -(2 ^ 63) ≤ k ∧ xs.length * k.toNat ≤ sizeLine ∧ flatL xs = true then some (.lst (List.replicate k.toNat xs).flatten) else none
  | _, _ => none
theorem flatL_rep {xs : List D} (h : flatL xs = true) (k : Nat) : flatL (List.replicate k xs).flatten = true := by
  rw [flatL_all] at h ⊢
  intro d hd
  obtain ⟨l, hl, hd⟩ := List.mem_flatten.mp hd
  rw [List.mem_replicate] at hl
  exact h d (by rw [← hl.2]; exact hd)
theorem RepL.rep {P : Addr → Prop} {H : Hp} {xs : List D} {vs : List V} (h : RepL P H xs vs) : ∀ k : Nat, RepL P H (List.replicate k xs).flatten (List.replicate k vs).flatten
  | 0 => .nil
  | k + 1 => by
    rw [List.replicate_succ, List.replicate_succ, List.flatten_cons, List.flatten_cons]
    exact h.append (RepL.rep h k)
theorem snd_mul : Snd2 G dMul (fun x y H Q => (rI CMul fun i j => .int (i * j)) x y H Q ∨ rRep x y H Q) := by
  intro H c x y u w d Q W ra rb e k
  unfold dMul at e
  split at e
  · rw [rep_int] at ra rb
    subst ra rb
    split at e
    · rename_i hz
      cases Option.some.inj e
      exact .inl ⟨_, _, rfl, rfl, hz, k _ _ .here (rep_int.mpr rfl)⟩
    · cases e
  · split at e
    · rename_i hz
      cases Option.some.inj e
      rw [rep_int] at rb
      rw [rep_lst] at ra
      obtain ⟨p, vs, rfl, _, h1, t1⟩ := ra
      subst rb
      refine .inr ⟨p, _, vs, rfl, rfl, h1, hz.2.1, hz.1, by rw [t1.len]; exact hz.2.2.1, fun z hz' => k _ _ (.new hz') ?_⟩
      exact newLst W hz' (flatL_rep hz.2.2.2 _) (t1.rep _)
    · cases e
  · cases e
theorem ve_mul (ha : VE .B X G a f) (hb : VE .B X G b g) : VE .N X G (.BinOp a .Mult b pos) (eOp2 dMul f g) := ve_op2 ha hb (fun _ _ pa pb => pe_op (op_mul.or op_rep) pa pb) snd_mul
def dNeg : D → Option D
  | .int i => some (.int (-i))
  | _ => none
theorem ve_neg (ha : VE .B X G a f) : VE .N X G (.UnaryOp .USub a pos) (eOp1 dNeg f) := ve_op1 ha (fun _ pa => pe_un un_neg pa) fun H c x u d Q W r e k => by
  unfold dNeg at e
  split at e
  · rw [rep_int] at r
    subst r
    cases Option.some.inj e
    exact ⟨_, rfl, k _ _ .here (rep_int.mpr rfl)⟩
  · cases e
end
end DL

set_option Elab.async false
set_option linter.all false
set_option maxRecDepth 100000
set_option maxHeartbeats 4000000
/-! DL4: comparisons, tests, items, slices, displays. -/
namespace DL
open PySem PySem.Spec L2

/-! ### == -/
mutual
def eqv : D → D → Bool
  | .non, .non => true
  | .bl a, .bl b => a == b
  | .bl a, .int j => (if a then 1 else 0) == j
  | .int i, .bl b => i == (if b then 1 else 0)
  | .int i, .int j => i == j
  | .str x, .str y => x == y
  | .lst xs, .lst ys => eqvL xs ys
  | .tup xs, .tup ys => eqvL xs ys
  | _, _ => false
def eqvL : List D → List D → Bool
  | [], [] => true
  | x :: xs, y :: ys => eqv x y && eqvL xs ys
  | _, _ => false
end
mutual
def eqOk : Nat → D → Bool
  | _, .non => true | _, .bl _ => true | _, .int _ => true
  | _, .str x => PyData.strOk x
  | n + 1, .lst xs => eqOkL n xs
  | n + 1, .tup xs => eqOkL n xs
  | _, _ => false
def eqOkL : Nat → List D → Bool
  | _, [] => true
  | n, x :: xs => eqOk n x && eqOkL n xs
end
mutual
def toPy : D → PyData
  | .non => .none | .bl b => .bool b | .int i => .int i | .str x => .str x
  | .lst xs => .list (toPyL xs) | .tup xs => .tuple (toPyL xs)
  | _ => .none
def toPyL : List D → List PyData
  | [] => []
  | x :: xs => toPy x :: toPyL xs
end
mutual
theorem toPy_lay : ∀ (n : Nat) (d : D), eqOk n d = true → (toPy d).canLay0 = true ∧ (toPy d).depth ≤ n
  | n, .non, h => by simp [toPy, PyData.canLay0, PyData.depth]
  | n, .bl _, h => by simp [toPy, PyData.canLay0, PyData.depth]
  | n, .int _, h => by simp [toPy, PyData.canLay0, PyData.depth]
  | n, .str x, h => by
    have h : PyData.strOk x = true := by cases n <;> simpa [eqOk] using h
    simp [toPy, PyData.canLay0, PyData.depth, h]
  | n + 1, .lst xs, h => by
    have q := toPyL_lay n xs (by simpa [eqOk] using h)
    simp [toPy, PyData.canLay0, PyData.depth, q.1, q.2]
  | n + 1, .tup xs, h => by
    have q := toPyL_lay n xs (by simpa [eqOk] using h)
    simp [toPy, PyData.canLay0, PyData.depth, q.1, q.2]
  | 0, .lst xs, h => by simp [eqOk] at h
  | 0, .tup xs, h => by simp [eqOk] at h
  | 0, .dct _ _, h => by simp [eqOk] at h
  | n + 1, .dct _ _, h => by simp [eqOk] at h
  | 0, .scr _, h => by simp [eqOk] at h
  | n + 1, .scr _, h => by simp [eqOk] at h
  | 0, .exc _ _, h => by simp [eqOk] at h
  | n + 1, .exc _ _, h => by simp [eqOk] at h
  | 0, .look _ _, h => by simp [eqOk] at h
  | n + 1, .look _ _, h => by simp [eqOk] at h
  | 0, .log _, h => by simp [eqOk] at h
  | n + 1, .log _, h => by simp [eqOk] at h
theorem toPyL_lay : ∀ (n : Nat) (xs : List D), eqOkL n xs = true → PyData.canLayAll0 (toPyL xs) = true ∧ PyData.depthAll (toPyL xs) ≤ n
  | n, [], h => by simp [toPyL, PyData.canLayAll0, PyData.depthAll]
  | n, x :: xs, h => by
    simp only [eqOkL, Bool.and_eq_true] at h
    have q1 := toPy_lay n x h.1
    have q2 := toPyL_lay n xs h.2
    simp only [toPyL, PyData.canLayAll0, PyData.depthAll, q1.1, q2.1, Bool.and_self, true_and]
    exact Nat.max_le.mpr ⟨q1.2, q2.2⟩
end
mutual
theorem toPy_eqv : ∀ (n m : Nat) (a b : D), eqOk n a = true → eqOk m b = true → PyData.eqv (toPy a) (toPy b) = eqv a b
  | n + 1, m + 1, .lst xs, .lst ys, h1, h2 => by
    simp only [toPy, PyData.eqv, eqv]
    exact toPyL_eqv n m xs ys (by simpa [eqOk] using h1) (by simpa [eqOk] using h2)
  | n + 1, m + 1, .tup xs, .tup ys, h1, h2 => by
    simp only [toPy, PyData.eqv, eqv]
    exact toPyL_eqv n m xs ys (by simpa [eqOk] using h1) (by simpa [eqOk] using h2)
  | 0, m, .lst xs, b, h1, h2 => by simp [eqOk] at h1
  | 0, m, .tup xs, b, h1, h2 => by simp [eqOk] at h1
  | n + 1, 0, .lst xs, b, h1, h2 => by cases b <;> simp [toPy, PyData.eqv, eqv, eqOk] at h2 ⊢
  | n + 1, 0, .tup xs, b, h1, h2 => by cases b <;> simp [toPy, PyData.eqv, eqv, eqOk] at h2 ⊢
  | n + 1, m + 1, .lst xs, .tup ys, h1, h2 => by simp [toPy, PyData.eqv, eqv]
  | n + 1, m + 1, .tup xs, .lst ys, h1, h2 => by simp [toPy, PyData.eqv, eqv]
  | n + 1, m + 1, .lst xs, .non, h1, h2 => by simp [toPy, PyData.eqv, eqv]
  | n + 1, m + 1, .lst xs, .bl _, h1, h2 => by simp [toPy, PyData.eqv, eqv]
  | n + 1, m + 1, .lst xs, .int _, h1, h2 => by simp [toPy, PyData.eqv, eqv]
  | n + 1, m + 1, .lst xs, .str _, h1, h2 => by simp [toPy, PyData.eqv, eqv]
  | n + 1, m + 1, .tup xs, .non, h1, h2 => by simp [toPy, PyData.eqv, eqv]
  | n + 1, m + 1, .tup xs, .bl _, h1, h2 => by simp [toPy, PyData.eqv, eqv]
  | n + 1, m + 1, .tup xs, .int _, h1, h2 => by simp [toPy, PyData.eqv, eqv]
  | n + 1, m + 1, .tup xs, .str _, h1, h2 => by simp [toPy, PyData.eqv, eqv]
  | n, m, .non, b, h1, h2 => by cases b <;> cases m <;> simp [toPy, PyData.eqv, eqv, eqOk] at h2 ⊢
  | n, m, .bl _, b, h1, h2 => by cases b <;> cases m <;> simp [toPy, PyData.eqv, eqv, eqOk] at h2 ⊢
  | n, m, .int _, b, h1, h2 => by cases b <;> cases m <;> simp [toPy, PyData.eqv, eqv, eqOk] at h2 ⊢
  | n, m, .str _, b, h1, h2 => by cases b <;> cases m <;> simp [toPy, PyData.eqv, eqv, eqOk] at h2 ⊢
  | n, m, .dct _ _, b, h1, h2 => by cases n <;> simp [eqOk] at h1
  | n, m, .scr _, b, h1, h2 => by cases n <;> simp [eqOk] at h1
  | n, m, .exc _ _, b, h1, h2 => by cases n <;> simp [eqOk] at h1
  | n, m, .look _ _, b, h1, h2 => by cases n <;> simp [eqOk] at h1
  | n, m, .log _, b, h1, h2 => by cases n <;> simp [eqOk] at h1
  | n + 1, m + 1, .lst xs, .dct _ _, h1, h2 => by simp [eqOk] at h2
  | n + 1, m + 1, .lst xs, .scr _, h1, h2 => by simp [eqOk] at h2
  | n + 1, m + 1, .lst xs, .exc _ _, h1, h2 => by simp [eqOk] at h2
  | n + 1, m + 1, .lst xs, .look _ _, h1, h2 => by simp [eqOk] at h2
  | n + 1, m + 1, .lst xs, .log _, h1, h2 => by simp [eqOk] at h2
  | n + 1, m + 1, .tup xs, .dct _ _, h1, h2 => by simp [eqOk] at h2
  | n + 1, m + 1, .tup xs, .scr _, h1, h2 => by simp [eqOk] at h2
  | n + 1, m + 1, .tup xs, .exc _ _, h1, h2 => by simp [eqOk] at h2
  | n + 1, m + 1, .tup xs, .look _ _, h1, h2 => by simp [eqOk] at h2
  | n + 1, m + 1, .tup xs, .log _, h1, h2 => by simp [eqOk] at h2
theorem toPyL_eqv : ∀ (n m : Nat) (xs ys : List D), eqOkL n xs = true → eqOkL m ys = true → PyData.eqvAll (toPyL xs) (toPyL ys) = eqvL xs ys
  | n, m, [], [], h1, h2 => by simp [toPyL, PyData.eqvAll, eqvL]
  | n, m, [], y :: ys, h1, h2 => by simp [toPyL, PyData.eqvAll, eqvL]
  | n, m, x :: xs, [], h1, h2 => by simp [toPyL, PyData.eqvAll, eqvL]
  | n, m, x :: xs, y :: ys, h1, h2 => by
    simp only [eqOkL, Bool.and_eq_true] at h1 h2
    simp only [toPyL, PyData.eqvAll, eqvL, toPy_eqv n m x y h1.1 h2.1, toPyL_eqv n m xs ys h1.2 h2.2]
end
mutual
theorem dp_of {K : PySem.W.Frag} {P : Addr → Prop} {H : Hp} : ∀ (n : Nat) (d : D) (v : V), eqOk n d = true → Rep P H d v → Dp K H v (toPy d)
  | n, .non, v, h, r => by rw [rep_non] at r; subst r; exact .non
  | n, .bl _, v, h, r => by rw [rep_bl] at r; subst r; exact .bl _
  | n, .int _, v, h, r => by rw [rep_int] at r; subst r; exact .int _
  | n, .str _, v, h, r => by rw [rep_str] at r; subst r; exact .str _
  | n + 1, .lst xs, v, h, r => by
    rw [rep_lst] at r
    obtain ⟨a, vs, rfl, _, e, t⟩ := r
    simp only [toPy]
    exact .lst (SqL.of e) (dpL_of n xs vs (by simpa [eqOk] using h) t)
  | n + 1, .tup xs, v, h, r => by
    rw [rep_tup] at r
    obtain ⟨a, vs, rfl, e, t⟩ := r
    simp only [toPy]
    exact .tup (SqT.of e) (dpL_of n xs vs (by simpa [eqOk] using h) t)
  | 0, .lst xs, v, h, _ => by simp [eqOk] at h
  | 0, .tup xs, v, h, _ => by simp [eqOk] at h
  | n, .dct _ _, v, h, _ => by cases n <;> simp [eqOk] at h
  | n, .scr _, v, h, _ => by cases n <;> simp [eqOk] at h
  | n, .exc _ _, v, h, _ => by cases n <;> simp [eqOk] at h
  | n, .look _ _, v, h, _ => by cases n <;> simp [eqOk] at h
  | n, .log _, v, h, _ => by cases n <;> simp [eqOk] at h
theorem dpL_of {K : PySem.W.Frag} {P : Addr → Prop} {H : Hp} : ∀ (n : Nat) (ds : List D) (vs : List V), eqOkL n ds = true → RepL P H ds vs → DpAll K H vs (toPyL ds)
  | n, [], vs, h, r => by rw [r.unnil]; exact .nil
  | n, d :: ds, vs, h, r => by
    obtain ⟨v, vr, rfl, r1, r2⟩ := r.uncons
    simp only [eqOkL, Bool.and_eq_true] at h
    simp only [toPyL]
    exact .cons (dp_of n d v h.1 r1) (dpL_of n ds vr h.2 r2)
end
def atom : D → Bool
  | .non => true | .bl _ => true | .int _ => true | .str _ => true | _ => false
/-- what tells apart by op_eq: None, ints, texts, bools (no bool against an int) -/
def scalD : D → D → Bool
  | .non, .non => true | .non, .int _ => true | .int _, .non => true | .non, .bl _ => true | .bl _, .non => true | .non, .str _ => true | .str _, .non => true
  | .int _, .int _ => true | .bl _, .bl _ => true | .str _, .str _ => true
  | .int _, .str _ => true | .str _, .int _ => true | .bl _, .str _ => true | .str _, .bl _ => true
  | _, _ => false
def eqAny (a b : D) : Bool := scalD a b || (eqOk 8 a && eqOk 8 b)
def dEq (a b : D) : Option D := if eqAny a b = true then some (.bl (eqv a b)) else none
def dNe (a b : D) : Option D := if eqAny a b = true then some (.bl (!eqv a b)) else none
theorem scal_of {P : Addr → Prop} {H : Hp} {a b : D} {u w : V} (h : scalD a b = true) (r1 : Rep P H a u) (r2 : Rep P H b w) : scal u w = true ∧ decide (u = w) = eqv a b := by
  cases a <;> cases b <;> simp only [scalD, Bool.false_eq_true] at h <;> simp only [rep_non, rep_int, rep_bl, rep_str] at r1 r2 <;> subst r1 r2 <;> simp [scal, eqv] <;> rw [Bool.eq_iff_iff] <;> simp
theorem depth8 {d : D} (h : eqOk 8 d = true) : SeqAt.shaped (toPy d) = true := by
  have q := toPy_lay 8 d h
  unfold SeqAt.shaped
  rw [q.1, decide_eq_true (by omega : (toPy d).depth ≤ 64)]
  rfl
theorem snd_eq {G : Gc} {K : PySem.W.Frag} : Snd2 G dEq (fun x y H Q => rEq x y H Q ∨ rEqD K x y H Q) := by
  intro H c x y u w d Q W ra rb e k
  unfold dEq at e
  split at e
  · rename_i hz
    cases Option.some.inj e
    unfold eqAny at hz
    cases hs : scalD x y with
    | true =>
      obtain ⟨h1, h2⟩ := scal_of hs ra rb
      exact .inl ⟨h1, k _ _ .here (rep_bl.mpr (by rw [h2]))⟩
    | false =>
      rw [hs] at hz
      simp only [Bool.false_or, Bool.and_eq_true] at hz
      refine .inr ⟨toPy x, toPy y, dp_of 8 x u hz.1 ra, dp_of 8 y w hz.2 rb, depth8 hz.1, depth8 hz.2, ?_⟩
      rw [toPy_eqv 8 8 x y hz.1 hz.2]
      exact k _ _ .here (rep_bl.mpr rfl)
  · cases e
theorem snd_ne {G : Gc} {K : PySem.W.Frag} : Snd2 G dNe (fun x y H Q => rNe x y H Q ∨ rNeD K x y H Q) := by
  intro H c x y u w d Q W ra rb e k
  unfold dNe at e
  split at e
  · rename_i hz
    cases Option.some.inj e
    unfold eqAny at hz
    cases hs : scalD x y with
    | true =>
      obtain ⟨h1, h2⟩ := scal_of hs ra rb
      exact .inl ⟨h1, k _ _ .here (rep_bl.mpr (by rw [h2]))⟩
    | false =>
      rw [hs] at hz
      simp only [Bool.false_or, Bool.and_eq_true] at hz
      refine .inr ⟨toPy x, toPy y, dp_of 8 x u hz.1 ra, dp_of 8 y w hz.2 rb, depth8 hz.1, depth8 hz.2, ?_⟩
      rw [toPy_eqv 8 8 x y hz.1 hz.2]
      exact k _ _ .here (rep_bl.mpr rfl)
  · cases e

/-! ### a comparison: the operation with its rule -/
structure CmpR (X : Cx) (G : Gc) (op : CmpOp) (dop : D → D → Option D) : Prop where
  ex : ∃ r, OpR X (compareOp op) r ∧ Snd2 G dop r
section
variable {X : Cx} {G : Gc}
theorem cr_eq {k : Nat} (hr : Room k X.A) : CmpR X G .Eq dEq := ⟨_, op_eq.or (op_eqD hr.units), snd_eq⟩
theorem cr_ne {k : Nat} (hr : Room k X.A) : CmpR X G .NotEq dNe := ⟨_, op_ne.or (op_neD hr.units), snd_ne⟩
/-- the order of ints, of texts -/
def dCmp (p : Int → Int → Bool) (q : List Nat → List Nat → Bool) : D → D → Option D
  | .int i, .int j => some (.bl (p i j))
  | .str x, .str y => some (.bl (q x.cps.toList y.cps.toList))
  | _, _ => none
theorem snd_cmp {p : Int → Int → Bool} {q : List Nat → List Nat → Bool} : Snd2 G (dCmp p q) (fun x y H Q => (rI0 fun i j => .bl (p i j)) x y H Q ∨ ∃ i j, x = .str i ∧ y = .str j ∧ Q (.bl (q i.cps.toList j.cps.toList)) H) := by
  intro H c x y u w d Q W ra rb e k
  unfold dCmp at e
  split at e
  · rw [rep_int] at ra rb
    subst ra rb
    cases Option.some.inj e
    exact .inl ⟨_, _, rfl, rfl, k _ _ .here (rep_bl.mpr rfl)⟩
  · rw [rep_str] at ra rb
    subst ra rb
    cases Option.some.inj e
    exact .inr ⟨_, _, rfl, rfl, k _ _ .here (rep_bl.mpr rfl)⟩
  · cases e
def dLt : D → D → Option D := dCmp (fun i j => decide (i < j)) (fun x y => decide (x < y))
def dLe : D → D → Option D := dCmp (fun i j => decide (i ≤ j)) (fun x y => !decide (y < x))
def dGt : D → D → Option D := dCmp (fun i j => decide (j < i)) (fun x y => decide (y < x))
def dGe : D → D → Option D := dCmp (fun i j => decide (j ≤ i)) (fun x y => !decide (x < y))
theorem cr_lt : CmpR X G .Lt dLt := ⟨_, op_lt.or op_lt_str, snd_cmp⟩
theorem cr_le : CmpR X G .LtE dLe := ⟨_, op_le.or op_le_str, snd_cmp⟩
theorem cr_gt : CmpR X G .Gt dGt := ⟨_, op_gt.or op_gt_str, snd_cmp⟩
theorem cr_ge : CmpR X G .GtE dGe := ⟨_, op_ge.or op_ge_str, snd_cmp⟩
/-- is None -/
def isNon : D → Bool
  | .non => true
  | _ => false
theorem rep_isNon {P : Addr → Prop} {H : Hp} {d : D} {v : V} (r : Rep P H d v) : decide (v = .non) = isNon d := by
  cases d with
  | non => rw [rep_non] at r; subst r; rfl
  | bl b => rw [rep_bl] at r; subst r; rfl
  | int b => rw [rep_int] at r; subst r; rfl
  | str b => rw [rep_str] at r; subst r; rfl
  | lst xs => rw [rep_lst] at r; obtain ⟨a, vs, rfl, _⟩ := r; rfl
  | tup xs => rw [rep_tup] at r; obtain ⟨a, vs, rfl, _⟩ := r; rfl
  | dct ks es => rw [rep_dct] at r; obtain ⟨a, vs, rfl, _⟩ := r; rfl
  | scr ns => rw [rep_scr] at r; obtain ⟨a, vs, rfl, _⟩ := r; rfl
  | exc a C =>
    have r : v = .ref a := by simpa only [Rep] using r
    subst r; rfl
  | look k xs => simp only [Rep] at r
  | log n => simp only [Rep] at r
def dIsN (x y : D) : Option D := if isNon y = true then some (.bl (isNon x)) else none
def dNotN (x y : D) : Option D := if isNon y = true then some (.bl (!isNon x)) else none
theorem cr_isN : CmpR X G .Is dIsN := ⟨_, op_isN, fun H c x y u w d Q W ra rb e k => by
  unfold dIsN at e
  split at e
  · rename_i hz
    cases Option.some.inj e
    refine ⟨of_decide_eq_true ((rep_isNon rb).trans hz), ?_⟩
    rw [rep_isNon ra]
    exact k _ _ .here (rep_bl.mpr rfl)
  · cases e⟩
theorem cr_notN : CmpR X G .IsNot dNotN := ⟨_, op_notN, fun H c x y u w d Q W ra rb e k => by
  unfold dNotN at e
  split at e
  · rename_i hz
    cases Option.some.inj e
    refine ⟨of_decide_eq_true ((rep_isNon rb).trans hz), ?_⟩
    rw [rep_isNon ra]
    exact k _ _ .here (rep_bl.mpr rfl)
  · cases e⟩
/-- in a list or tuple of atoms; a sign in a text -/
def inL (x : D) (xs : List D) : Bool := xs.any fun y => eqv y x
def dIn : D → D → Option D
  | x, .lst xs => if atom x = true ∧ xs.all atom = true then some (.bl (inL x xs)) else none
  | x, .tup xs => if atom x = true ∧ xs.all atom = true then some (.bl (inL x xs)) else none
  | .str z, .str y => match z.cps.toList with
    | [c] => some (.bl (decide (c ∈ y.cps.toList)))
    | _ => none
  | _, _ => none
def dNotIn (x y : D) : Option D := match dIn x y with
  | some (.bl b) => some (.bl (!b))
  | _ => none
theorem atom_flatV {P : Addr → Prop} {H : Hp} {d : D} {v : V} (h : atom d = true) (r : Rep P H d v) : flatV v = true := by
  cases d <;> simp only [atom, Bool.false_eq_true] at h <;> simp only [rep_non, rep_int, rep_bl, rep_str] at r <;> subst r <;> rfl
theorem atom_eqV {P : Addr → Prop} {H : Hp} {a b : D} {u w : V} (h1 : atom a = true) (h2 : atom b = true) (r1 : Rep P H a u) (r2 : Rep P H b w) : eqV u w = eqv a b := by
  cases a <;> simp only [atom, Bool.false_eq_true] at h1 <;> cases b <;> simp only [atom, Bool.false_eq_true] at h2 <;> simp only [rep_non, rep_int, rep_bl, rep_str] at r1 r2 <;> subst r1 r2 <;> simp only [eqV, eqv]
theorem atoms_all {P : Addr → Prop} {H : Hp} {x : D} {u : V} (hx : atom x = true) (r : Rep P H x u) : ∀ {xs : List D} {vs : List V}, xs.all atom = true → RepL P H xs vs → vs.all flatV = true ∧ inV u vs = inL x xs
  | [], vs, h, t => by rw [t.unnil]; exact ⟨rfl, rfl⟩
  | d :: ds, vs, h, t => by
    obtain ⟨v, vr, rfl, r1, r2⟩ := t.uncons
    rw [List.all_cons, Bool.and_eq_true] at h
    obtain ⟨h1, h2⟩ := atoms_all hx r h.2 r2
    refine ⟨by rw [List.all_cons, atom_flatV h.1 r1, h1]; rfl, ?_⟩
    unfold inV inL at h2 ⊢
    rw [List.any_cons, List.any_cons, h2, atom_eqV h.1 hx r1 r]
theorem str_one {z : Str} {c : Nat} (h : z.cps.toList = [c]) : z = ⟨#[c]⟩ := by
  obtain ⟨l⟩ := z
  congr
  exact Array.toList_inj.mp h
theorem cr_in : CmpR X G .In dIn := ⟨_, op_in_seq.or op_in_sign, fun H c x y u w d Q W ra rb e k => by
  unfold dIn at e
  split at e
  · split at e
    · rename_i hz
      cases Option.some.inj e
      rw [rep_lst] at rb
      obtain ⟨p, vs, rfl, _, h1, t⟩ := rb
      obtain ⟨q1, q2⟩ := atoms_all hz.1 ra hz.2 t
      refine .inl ⟨p, vs, rfl, .inl (SqL.of h1), atom_flatV hz.1 ra, q1, ?_⟩
      simp only [Bool.false_eq_true, if_false]
      exact k _ _ .here (rep_bl.mpr (by rw [q2]))
    · cases e
  · split at e
    · rename_i hz
      cases Option.some.inj e
      rw [rep_tup] at rb
      obtain ⟨p, vs, rfl, h1, t⟩ := rb
      obtain ⟨q1, q2⟩ := atoms_all hz.1 ra hz.2 t
      refine .inl ⟨p, vs, rfl, .inr (SqT.of h1), atom_flatV hz.1 ra, q1, ?_⟩
      simp only [Bool.false_eq_true, if_false]
      exact k _ _ .here (rep_bl.mpr (by rw [q2]))
    · cases e
  · split at e
    · rename_i hz
      cases Option.some.inj e
      rw [rep_str] at ra rb
      subst ra rb
      exact .inr ⟨_, _, by rw [← str_one hz], rfl, k _ _ .here (rep_bl.mpr rfl)⟩
    · cases e
  · cases e⟩
theorem cr_notIn : CmpR X G .NotIn dNotIn := ⟨_, op_notIn_seq.or op_notIn_sign, fun H c x y u w d Q W ra rb e k => by
  unfold dNotIn at e
  split at e
  · rename_i b e0
    cases Option.some.inj e
    unfold dIn at e0
    split at e0
    · split at e0
      · rename_i hz
        cases Option.some.inj e0
        rw [rep_lst] at rb
        obtain ⟨p, vs, rfl, _, h1, t⟩ := rb
        obtain ⟨q1, q2⟩ := atoms_all hz.1 ra hz.2 t
        refine .inl ⟨p, vs, rfl, .inl (SqL.of h1), atom_flatV hz.1 ra, q1, ?_⟩
        simp only [if_true]
        exact k _ _ .here (rep_bl.mpr (by rw [q2]))
      · cases e0
    · split at e0
      · rename_i hz
        cases Option.some.inj e0
        rw [rep_tup] at rb
        obtain ⟨p, vs, rfl, h1, t⟩ := rb
        obtain ⟨q1, q2⟩ := atoms_all hz.1 ra hz.2 t
        refine .inl ⟨p, vs, rfl, .inr (SqT.of h1), atom_flatV hz.1 ra, q1, ?_⟩
        simp only [if_true]
        exact k _ _ .here (rep_bl.mpr (by rw [q2]))
      · cases e0
    · split at e0
      · rename_i hz
        cases Option.some.inj e0
        rw [rep_str] at ra rb
        subst ra rb
        exact .inr ⟨_, _, by rw [← str_one hz], rfl, k _ _ .here (rep_bl.mpr rfl)⟩
      · cases e0
    · cases e0
  · cases e⟩

variable {e a b : Expr} {f g : DE} {pos : Pos} {op : CmpOp} {dop : D → D → Option D}
theorem ve_cmp (cr : CmpR X G op dop) (ha : VE .B X G a f) (hb : VE .B X G b g) (hm : behindInMarks op b = false) : VE .N X G (.Compare a [op] [b] pos) (eOp2 dop f g) := by
  obtain ⟨r, ho, hs⟩ := cr.ex
  exact ve_op2 ha hb (fun _ _ pa pb => pe_cmpR ho pa pb hm) hs
/-- a value that is True or False, as a test -/
def tB (f : DE) : DT := fun ds c Q => f ds c fun d c' => match d with
  | .bl b => Q b c'
  | _ => False
theorem vt_cmp (cr : CmpR X G op dop) (ha : VE .B X G a f) (hb : VE .B X G b g) (hm : behindInMarks op b = false) : VT X G (.Compare a [op] [b] pos) (tB (eOp2 dop f g)) := by
  obtain ⟨r, ho, hsd⟩ := cr.ex
  obtain ⟨ta, pa, ia⟩ := ha.ex
  obtain ⟨tb, pb, ib⟩ := hb.ex
  refine ⟨_, pt_cmpR ho pa pb hm, fun hs σ H ds c Qd Q S q k => ?_⟩
  refine ia hs σ H ds c _ _ S q fun v1 H1 d1 c1 S1 s1 r1 q1 => ?_
  refine ib hs σ H1 ds c1 _ _ S1 q1 fun v2 H2 d2 c2 S2 s2 r2 q2 => ?_
  obtain ⟨d, e, q3⟩ := opt_some q2
  refine hsd H2 c2 d1 d2 v1 v2 d _ S2.winv (Rep.keep s2 (fun a z => z) _ _ (repB r1)) (repB r2) e fun v H' n rr => ?_
  cases d with
  | bl z =>
    rw [rep_bl] at rr
    subst rr
    exact ⟨z, rfl, k z H' c2 (S2.grow n.sw (n.wi S2.winv)) ((s1.trans s2).trans n.sw) q3⟩
  | _ => exact q3.elim
theorem vt_val (ha : VE .B X G e f) (he : ∀ whole, isTrue e X.env whole = (do let v ← whole; standAt e.pos; holding [v] (truthy v)) := by intro _; rfl) : VT X G e (tB f) := by
  obtain ⟨t, pt, it⟩ := ha.ex
  refine ⟨_, pt_val pt he, fun hs σ H ds c Qd Q S q k => ?_⟩
  refine it hs σ H ds c _ _ S q fun v H' d c' S' s' r q' => ?_
  cases d with
  | bl b =>
    have r := repB r
    rw [rep_bl] at r
    exact ⟨b, r, k b H' c' S' s' q'⟩
  | _ => exact q'.elim
variable {p q : DT} {rest : List Expr}
def tNt (p : DT) : DT := fun ds c Q => p ds c fun b c' => Q (!b) c'
theorem vt_not (ha : VT X G a p) : VT X G (.UnaryOp .Not a pos) (tNt p) := by
  obtain ⟨t, pt, it⟩ := ha.ex
  exact ⟨_, pt_not pt, fun hs σ H ds c Qd Q S q k => it hs σ H ds c _ _ S q fun b H' c' S' s' q' => k _ H' c' S' s' q'⟩
def tAn (p q : DT) : DT := fun ds c Q => p ds c fun b c' => if b = true then q ds c' Q else Q false c'
def tOr_ (p q : DT) : DT := fun ds c Q => p ds c fun b c' => if b = true then Q true c' else q ds c' Q
theorem vw_and1 (ha : VT X G a p) : VW X G (.BoolOp .And [a] pos) p := by
  obtain ⟨t, pt, it⟩ := ha.ex
  exact ⟨_, pw_and1 pt, it⟩
theorem vw_or1 (ha : VT X G a p) : VW X G (.BoolOp .Or [a] pos) p := by
  obtain ⟨t, pt, it⟩ := ha.ex
  exact ⟨_, pw_or1 pt, it⟩
theorem vw_and (ha : VT X G a p) (hb : VW X G (.BoolOp .And (b :: rest) pos) q) : VW X G (.BoolOp .And (a :: b :: rest) pos) (tAn p q) := by
  obtain ⟨t, pt, it⟩ := ha.ex
  obtain ⟨t2, pt2, it2⟩ := hb.ex
  refine ⟨_, pw_and pt pt2, fun hs σ H ds c Qd Q S q k => it hs σ H ds c _ _ S q fun b H' c' S' s' q' => ?_⟩
  cases b with
  | true =>
    rw [if_pos rfl] at q' ⊢
    exact it2 hs σ H' ds c' _ _ S' q' fun b2 H2 c2 S2 s2 q2 => k b2 H2 c2 S2 (s'.trans s2) q2
  | false =>
    rw [if_neg Bool.false_ne_true] at q' ⊢
    exact k false H' c' S' s' q'
theorem vw_or (ha : VT X G a p) (hb : VW X G (.BoolOp .Or (b :: rest) pos) q) : VW X G (.BoolOp .Or (a :: b :: rest) pos) (tOr_ p q) := by
  obtain ⟨t, pt, it⟩ := ha.ex
  obtain ⟨t2, pt2, it2⟩ := hb.ex
  refine ⟨_, pw_or pt pt2, fun hs σ H ds c Qd Q S q k => it hs σ H ds c _ _ S q fun b H' c' S' s' q' => ?_⟩
  cases b with
  | true =>
    rw [if_pos rfl] at q' ⊢
    exact k true H' c' S' s' q'
  | false =>
    rw [if_neg Bool.false_ne_true] at q' ⊢
    exact it2 hs σ H' ds c' _ _ S' q' fun b2 H2 c2 S2 s2 q2 => k b2 H2 c2 S2 (s'.trans s2) q2
theorem vt_w (h : VW X G e p) : VT X G e p := by
  obtain ⟨t, pt, it⟩ := h.ex
  exact ⟨_, pt.pt, it⟩
/-- as values -/
def eTv (p : DT) : DE := fun ds c Q => p ds c fun b c' => Q (.bl b) c'
def eNt (f : DE) : DE := fun ds c Q => f ds c fun d c' => match d with
  | .bl b => Q (.bl (!b)) c'
  | _ => False
def eAn (f g : DE) : DE := fun ds c Q => f ds c fun d c' => match d with
  | .bl true => g ds c' Q
  | .bl false => Q (.bl false) c'
  | _ => False
def eOr (f g : DE) : DE := fun ds c Q => f ds c fun d c' => match d with
  | .bl true => Q (.bl true) c'
  | .bl false => g ds c' Q
  | _ => False
theorem ve_not (ha : VE .B X G a f) : VE .N X G (.UnaryOp .Not a pos) (eNt f) := by
  obtain ⟨t, pt, it⟩ := ha.ex
  refine ⟨_, pe_not pt, fun hs σ H ds c Qd Q S q k => it hs σ H ds c _ _ S q fun v H' d c' S' s' r q' => ?_⟩
  cases d with
  | bl b =>
    have r := repB r
    rw [rep_bl] at r
    exact ⟨b, r, k _ H' (.bl (!b)) c' S' s' (repN (rep_bl.mpr rfl)) q'⟩
  | _ => exact q'.elim
theorem ve_one {op} {m : Md} (ha : VE m X G a f) : VE m X G (.BoolOp op [a] pos) f := by
  obtain ⟨t, pt, it⟩ := ha.ex
  exact ⟨_, pe_one pt, it⟩
theorem ve_and {m : Md} (ha : VE .B X G a f) (hb : VE .N X G (.BoolOp .And (b :: rest) pos) g) : VE .N X G (.BoolOp .And (a :: b :: rest) pos) (eAn f g) := by
  obtain ⟨t, pt, it⟩ := ha.ex
  obtain ⟨t2, pt2, it2⟩ := hb.ex
  refine ⟨_, pe_and pt pt2, fun hs σ H ds c Qd Q S q k => it hs σ H ds c _ _ S q fun v H' d c' S' s' r q' => ?_⟩
  cases d with
  | bl z =>
    have r := repB r
    rw [rep_bl] at r
    refine ⟨z, r, ?_⟩
    cases z with
    | true =>
      rw [if_pos rfl]
      exact it2 hs σ H' ds c' _ _ S' q' fun v2 H2 d2 c2 S2 s2 r2 q2 => k v2 H2 d2 c2 S2 (s'.trans s2) (RepM.back s' r2) q2
    | false =>
      rw [if_neg Bool.false_ne_true]
      exact k _ H' (.bl false) c' S' s' (repN (rep_bl.mpr rfl)) q'
  | _ => exact q'.elim
theorem ve_or {m : Md} (ha : VE .B X G a f) (hb : VE .N X G (.BoolOp .Or (b :: rest) pos) g) : VE .N X G (.BoolOp .Or (a :: b :: rest) pos) (eOr f g) := by
  obtain ⟨t, pt, it⟩ := ha.ex
  obtain ⟨t2, pt2, it2⟩ := hb.ex
  refine ⟨_, pe_or pt pt2, fun hs σ H ds c Qd Q S q k => it hs σ H ds c _ _ S q fun v H' d c' S' s' r q' => ?_⟩
  cases d with
  | bl z =>
    have r := repB r
    rw [rep_bl] at r
    refine ⟨z, r, ?_⟩
    cases z with
    | true =>
      rw [if_pos rfl]
      exact k _ H' (.bl true) c' S' s' (repN (rep_bl.mpr rfl)) q'
    | false =>
      rw [if_neg Bool.false_ne_true]
      exact it2 hs σ H' ds c' _ _ S' q' fun v2 H2 d2 c2 S2 s2 r2 q2 => k v2 H2 d2 c2 S2 (s'.trans s2) (RepM.back s' r2) q2
  | _ => exact q'.elim
end
end DL

set_option Elab.async false
set_option linter.all false
set_option maxRecDepth 100000
set_option maxHeartbeats 4000000
/-! DL5: items, slices, displays, calls. -/
namespace DL
open PySem PySem.Spec L2

theorem ixN_at {α : Type} {xs : List α} {i : Int} : atI xs i = (ixN xs.length i).bind fun j => xs[j]? := rfl
section
variable {P : Addr → Prop} {H : Hp} {G : Gc}
theorem RepL.atI {xs : List D} {vs : List V} {i : Int} {d : D} (t : RepL P H xs vs) (h : L2.atI xs i = some d) : ∃ v, L2.atI vs i = some v ∧ Rep P H d v := by
  unfold L2.atI at h ⊢
  rw [t.len]
  cases e : ixN xs.length i with
  | none => rw [e] at h; cases h
  | some j =>
    rw [e] at h
    exact t.get h
/-- the pairs of a dict by their keys -/
def dLook : List Key → List D → Key → Option D
  | k :: ks, v :: vs, x => if k = x then some v else dLook ks vs x
  | _, _, _ => none
def toKey : D → Option Key
  | .int i => some (.inl i)
  | .str x => some (.inr x)
  | _ => none
theorem toKey_rep {d : D} {k : Key} {v : V} (h : toKey d = some k) (r : Rep P H d v) : v = kV k := by
  cases d <;> simp only [toKey, reduceCtorEq, Option.some.injEq] at h
  · rw [rep_int] at r; subst r; subst h; rfl
  · rw [rep_str] at r; subst r; subst h; rfl
theorem look_rep : ∀ {kvs : List (Key × V)} {es : List D} {k : Key}, RepL P H es (kvs.map (·.2)) → match dLook (kvs.map (·.1)) es k with
    | some d => ∃ v, valV kvs k = some v ∧ Rep P H d v
    | none => valV kvs k = none
  | [], es, k, r => by
    cases es with
    | nil => rfl
    | cons => obtain ⟨v, vr, e, _⟩ := r.uncons; cases e
  | (k0, v0) :: kvs, es, k, r => by
    cases es with
    | nil => have := r.unnil; cases this
    | cons d es =>
      obtain ⟨v, vr, e, r1, r2⟩ := r.uncons
      simp only [List.map_cons, List.cons.injEq] at e
      obtain ⟨rfl, rfl⟩ := e
      simp only [List.map_cons, dLook]
      by_cases h : k0 = k
      · rw [if_pos h]
        exact ⟨v0, by unfold valV; simp [h], r1⟩
      · rw [if_neg h]
        have ih := look_rep (k := k) r2
        have e1 : valV ((k0, v0) :: kvs) k = valV kvs k := by
          unfold valV
          rw [List.find?_cons_of_neg (by simpa using h)]
        rw [e1]; exact ih
end
/-- an item: of a list, a tuple, the script, a text, a dict -/
def dIxA : D → D → Option D
  | .lst xs, .int i => atI xs i
  | .tup xs, .int i => atI xs i
  | .scr ns, .int i => (atI ns i).map .int
  | .str z, .int i => if z.length ≤ sizeLine then (atI z.cps.toList i).map fun c => .str ⟨#[c]⟩ else none
  | .dct ks vs, k => match toKey k with
    | some k => dLook ks vs k
    | none => none
  | _, _ => none
def dIx (a b : D) : Option D := match dIxA a b with
  | some d => if flat d = true then some d else none
  | none => none
def rDGet : R2 := fun x y H Q => ∃ a v, x = .ref a ∧ DGet H a y (some v) ∧ Q v H
open PyProof.Rows in
theorem ix_dict {X : Cx} (hu : X.A.units + 1 < cLine) : IxR X rDGet := by
  intro value slice pins s σ H x y v u Q I rx ry h hs
  obtain ⟨a, z, rfl, g, q⟩ := h
  cases rx
  have hT := dict_typeIs I g
  unfold subscriptTail
  refine wpAny_bind ?_
  rw [getitemInPython_of_ne hT.not_modules]
  refine wpAny_bind (wpAny_specialOf hT PySem.F.slot_dict_getitem.lookup ?_)
  have fin : wpAny (model X.prog X.w) X.A (subscripted slice false (.ref a) u) (fun r s₃ => wpAny (model X.prog X.w) X.A (letTemporaryGo value (.ref a) r >>= fun _ => pure r) (EP X pins σ Q) X.xe s₃) X.xe s := by
    rw [hs]
    exact wpAny_operating (wpAny_mono (d_getItem hu I g ry fun w' s3 I3 rw' => (⟨z, H, I3, rw', q⟩ : EP X pins σ Q w' s3)) (fun r s₃ h₃ => wpAny_bind (wpAny_letTemporaryGo (wpAny_pure h₃))) fun _ _ x => x)
  first
    | exact wpAny_pure (wpAny_bind fin)
    | exact wpAny_bind (wpAny_pure (wpAny_bind fin))
    | exact wpAny_bind fin
abbrev rIxAll (K : PySem.W.Frag) : R2 := fun x y H Q => rIx K x y H Q ∨ rDGet x y H Q
theorem atI_map {α β : Type} (g : α → β) (xs : List α) (i : Int) : atI (xs.map g) i = (atI xs i).map g := by
  unfold atI
  rw [List.length_map]
  cases ixN xs.length i with
  | none => rfl
  | some j => simp
/-- what the rule gives: the item as it lies -/
theorem snd_ixA {K : PySem.W.Frag} {P : Addr → Prop} {H : Hp} {x y d : D} {u w : V} {Q : VK} (ra : Rep P H x u) (rb : Rep P H y w) (e : dIxA x y = some d) (k : ∀ v, Rep P H d v → Q v H) : rIxAll K u w H Q := by
  unfold dIxA at e
  split at e
  · rw [rep_lst] at ra
    rw [rep_int] at rb
    obtain ⟨p, vs, rfl, _, h1, t⟩ := ra
    obtain ⟨v, e1, r1⟩ := t.atI e
    exact .inl (.inl ⟨p, vs, _, v, rfl, rb, SqL.of h1, e1, k v r1⟩)
  · rw [rep_tup] at ra
    rw [rep_int] at rb
    obtain ⟨p, vs, rfl, h1, t⟩ := ra
    obtain ⟨v, e1, r1⟩ := t.atI e
    exact .inl (.inr (.inl ⟨p, vs, _, v, rfl, rb, SqT.of h1, e1, k v r1⟩))
  · rw [rep_scr] at ra
    rw [rep_int] at rb
    obtain ⟨p, o, rfl, h1⟩ := ra
    obtain ⟨z, ez, rfl⟩ := Option.map_eq_some_iff.mp e
    refine .inl (.inl ⟨p, _, _, .int z, rfl, rb, .inl (.inr ⟨o, h1⟩), ?_, k _ (rep_int.mpr rfl)⟩)
    rw [atI_map, ez]; rfl
  · rw [rep_str] at ra
    rw [rep_int] at rb
    split at e
    · rename_i hz
      obtain ⟨z, ez, rfl⟩ := Option.map_eq_some_iff.mp e
      exact .inl (.inr (.inr ⟨_, _, z, ra, rb, hz, ez, k _ (rep_str.mpr rfl)⟩))
    · cases e
  · rw [rep_dct] at ra
    obtain ⟨p, kvs, rfl, _, h1, rfl, t⟩ := ra
    split at e
    · rename_i k0 ek
      have q := look_rep (k := k0) t
      rw [e] at q
      obtain ⟨v, e1, r1⟩ := q
      have := toKey_rep ek rb
      subst this
      refine .inr ⟨p, v, rfl, ?_, k v r1⟩
      rw [← e1]
      exact DGet.k h1
    · cases e
  · cases e
section
variable {X : Cx} {G : Gc} {e a b : Expr} {f g : DE} {pos : Pos} {k : Nat}
theorem hu1 (hr : Room k X.A) : X.A.units + 1 < cLine := hu_of hr
theorem ve_ix (hr : Room k X.A) (ha : VE .B X G a f) (hb : VE .B X G b g) (hs : PlainIx b := by intro _ _; rfl) : VE .N X G (.Subscript a b pos) (eOp2 dIx f g) :=
  ve_op2 ha hb (fun _ _ pa pb => pe_ix (ix_seq.or (ix_dict (hu1 hr))) pa pb hs) fun H c x y u w d Q W ra rb e k => by
    unfold dIx at e
    split at e
    · rename_i z ez
      split at e
      · rename_i hf
        cases Option.some.inj e
        exact snd_ixA ra rb ez fun v r => k v H .here (repFlat hf r)
      · cases e
    · cases e
/-- the item as it lies, of what may be held -/
theorem ve_ixE (hr : Room k X.A) (ha : VE .E X G a f) (hb : VE .N X G b g) (hs : PlainIx b := by intro _ _; rfl) : VE .E X G (.Subscript a b pos) (eOp2 dIxA f g) := by
  obtain ⟨ta, pa, ia⟩ := ha.ex
  obtain ⟨tb, pb, ib⟩ := hb.ex
  refine ⟨_, pe_ix (ix_seq.or (ix_dict (hu1 hr))) pa pb hs, fun hs σ H ds c Qd Q S q k => ?_⟩
  refine ia hs σ H ds c _ _ S q fun v1 H1 d1 c1 S1 s1 r1 q1 => ?_
  refine ib hs σ H1 ds c1 _ _ S1 q1 fun v2 H2 d2 c2 S2 s2 r2 q2 => ?_
  obtain ⟨d, e, q3⟩ := opt_some q2
  have ra : Rep (pE G ds σ) H2 d1 v1 := rep2_self.mp (RepM.keep s2 r1)
  have rb : Rep (pE G ds σ) H2 d2 v2 := rep2_self.mp (RepM.up S1 (m' := .E) rfl r2)
  exact snd_ixA ra rb e fun v r => k v H2 d c2 S2 (s1.trans s2) (rep2_self.mpr r) q3
/-- .. of a list or tuple whose items may be held (a slot's own one) -/
theorem ve_ixT (hr : Room k X.A) (ha : VE .T X G a f) (hb : VE .N X G b g) (hs : PlainIx b := by intro _ _; rfl) : VE .E X G (.Subscript a b pos) (eOp2 dIxA f g) := by
  obtain ⟨ta, pa, ia⟩ := ha.ex
  obtain ⟨tb, pb, ib⟩ := hb.ex
  refine ⟨_, pe_ix (ix_seq.or (ix_dict (hu1 hr))) pa pb hs, fun hs σ H ds c Qd Q S q k => ?_⟩
  refine ia hs σ H ds c _ _ S q fun v1 H1 d1 c1 S1 s1 r1 q1 => ?_
  refine ib hs σ H1 ds c1 _ _ S1 q1 fun v2 H2 d2 c2 S2 s2 r2 q2 => ?_
  obtain ⟨d, e, q3⟩ := opt_some q2
  have r1 := RepM.keep s2 r1
  have rb := repB r2
  have fin : ∀ v, Rep (pE G ds σ) H2 d v → Q v H2 := fun v r => k v H2 d c2 S2 (s1.trans s2) (rep2_self.mpr r) q3
  cases d1 with
  | lst xs =>
    obtain ⟨p, vs, rfl, _, h1, t⟩ := r1
    cases d2 <;> simp only [dIxA, reduceCtorEq] at e
    rename_i i
    rw [rep_int] at rb
    obtain ⟨v, e1, r⟩ := t.atI e
    exact .inl (.inl ⟨p, vs, _, v, rfl, rb, SqL.of h1, e1, fin v r⟩)
  | dct ks es =>
    obtain ⟨p, kvs, rfl, _, h1, rfl, t⟩ := r1
    simp only [dIxA] at e
    split at e
    · rename_i k0 ek
      have q := look_rep (k := k0) t
      rw [e] at q
      obtain ⟨v, e1, r⟩ := q
      have := toKey_rep ek rb
      subst this
      refine .inr ⟨p, v, rfl, ?_, fin v r⟩
      rw [← e1]
      exact DGet.k h1
    · cases e
  | _ => exact snd_ixA (P := pE G ds σ) r1 (rep2_self.mp (RepM.up S1 (m' := .E) rfl r2)) e fin

/-! ### key in dict -/
def rDIn (neg : Bool) : R2 := fun x y H Q => ∃ a o, y = .ref a ∧ DGet H a x o ∧ Q (.bl (if neg then !o.isSome else o.isSome)) H
theorem op_inDct (hu : X.A.units + 1 < cLine) : OpR X (compareOp .In) (rDIn false) := by
  intro pins s σ H x y v u Q I rx ry h
  obtain ⟨a, o, rfl, g, q⟩ := h
  cases ry
  exact d_in hu I g rx fun s3 I3 => ⟨.bl o.isSome, H, I3, rfl, q⟩
theorem op_notInDct (hu : X.A.units + 1 < cLine) : OpR X (compareOp .NotIn) (rDIn true) := by
  intro pins s σ H x y v u Q I rx ry h
  obtain ⟨a, o, rfl, g, q⟩ := h
  cases ry
  exact d_notIn hu I g rx fun s3 I3 => ⟨.bl (!o.isSome), H, I3, rfl, q⟩
def dInDct (x y : D) : Option D := match y, toKey x with
  | .dct ks vs, some k => some (.bl (dLook ks vs k).isSome)
  | _, _ => none
def dNotInDct (x y : D) : Option D := match y, toKey x with
  | .dct ks vs, some k => some (.bl (!(dLook ks vs k).isSome))
  | _, _ => none
theorem look_dget {P : Addr → Prop} {H : Hp} {kvs : List (Key × V)} {es : List D} {p : Addr} {k : Key} (h : H p = some (.dK kvs)) (t : RepL P H es (kvs.map (·.2))) : ∃ o, DGet H p (kV k) o ∧ o.isSome = (dLook (kvs.map (·.1)) es k).isSome := by
  refine ⟨valV kvs k, DGet.k h, ?_⟩
  have q := look_rep (k := k) t
  split at q
  · rename_i d e
    obtain ⟨v, e1, _⟩ := q
    rw [e1, e]; rfl
  · rename_i e
    rw [q, e] <;> rfl
theorem cr_inDct (hr : Room k X.A) : CmpR X G .In dInDct := ⟨_, op_inDct (hu1 hr), fun H c x y u w d Q W ra rb e k => by
  unfold dInDct at e
  split at e
  · rename_i ks vs k0 ek
    cases Option.some.inj e
    rw [rep_dct] at rb
    obtain ⟨p, kvs, rfl, _, h1, rfl, t⟩ := rb
    have := toKey_rep ek ra
    subst this
    obtain ⟨o, g, ho⟩ := look_dget (k := k0) h1 t
    refine ⟨p, o, rfl, g, ?_⟩
    simp only [Bool.false_eq_true, if_false]
    exact k _ _ .here (rep_bl.mpr (by rw [ho]))
  · cases e⟩
theorem cr_notInDct (hr : Room k X.A) : CmpR X G .NotIn dNotInDct := ⟨_, op_notInDct (hu1 hr), fun H c x y u w d Q W ra rb e k => by
  unfold dNotInDct at e
  split at e
  · rename_i ks vs k0 ek
    cases Option.some.inj e
    rw [rep_dct] at rb
    obtain ⟨p, kvs, rfl, _, h1, rfl, t⟩ := rb
    have := toKey_rep ek ra
    subst this
    obtain ⟨o, g, ho⟩ := look_dget (k := k0) h1 t
    refine ⟨p, o, rfl, g, ?_⟩
    simp only [if_true]
    exact k _ _ .here (rep_bl.mpr (by rw [ho]))
  · cases e⟩

/-! ### slices -/
/-- xs[lo:hi] -/
def cut {α : Type} (xs : List α) (lo hi : Option Int) : List α := (xs.drop (HT.sIx xs.length 0 lo)).take (HT.sIx xs.length xs.length hi - HT.sIx xs.length 0 lo)
def dSl : D → Option Int → Option Int → Option D
  | .lst xs, lo, hi => if flatL xs = true then some (.lst (cut xs lo hi)) else none
  | .scr ns, lo, hi => some (.lst ((cut ns lo hi).map .int))
  | .tup xs, lo, hi => if flatL xs = true ∧ ¬ (HT.sIx xs.length 0 lo = 0 ∧ HT.sIx xs.length xs.length hi = xs.length) then some (.tup (cut xs lo hi)) else none
  | .str z, lo, hi => if z.length ≤ sizeLine then some (.str ⟨(cut z.cps.toList lo hi).toArray⟩) else none
  | _, _, _ => none
abbrev DO := DSt → Nat → (Option Int → Nat → Prop) → Prop
structure VO (X : Cx) (G : Gc) (e : Option Expr) (f : DO) : Prop where
  ex : ∃ t, PO X e t ∧ ∀ hs σ H ds c Qd Q, StR G hs σ H ds c → f ds c Qd → (∀ o H' c', StR G hs σ H' ds c' → SameW G.Lg H H' → Qd o c' → Q o H') → t σ H Q
def oN : DO := fun _ c Q => Q none c
def oS (f : DE) : DO := fun ds c Q => f ds c fun d c' => match d with
  | .int i => Q (some i) c'
  | _ => False
theorem vo_none : VO X G none oN := ⟨_, po_none, fun hs σ H ds c Qd Q S q k => k none H c S .refl q⟩
theorem vo_some (ha : VE .B X G a f) : VO X G (some a) (oS f) := by
  obtain ⟨t, pt, it⟩ := ha.ex
  refine ⟨_, po_some pt, fun hs σ H ds c Qd Q S q k => it hs σ H ds c _ _ S q fun v H' d c' S' s' r q' => ?_⟩
  cases d with
  | int i =>
    have r := repB r
    rw [rep_int] at r
    exact ⟨i, r, k (some i) H' c' S' s' q'⟩
  | _ => exact q'.elim
def eSl (f : DE) (l h : DO) : DE := fun ds c Q => f ds c fun x c1 => l ds c1 fun lo c2 => h ds c2 fun hi c3 => opt (dSl x lo hi) c3 Q
theorem flatL_cut {xs : List D} {lo hi : Option Int} (h : flatL xs = true) : flatL (cut xs lo hi) = true := by
  rw [flatL_all] at h ⊢
  intro d m
  exact h d (List.mem_of_mem_drop (List.mem_of_mem_take m))
theorem RepL.cut {P : Addr → Prop} {H : Hp} {xs : List D} {vs : List V} {lo hi : Option Int} (t : RepL P H xs vs) : RepL P H (DL.cut xs lo hi) (cutV vs lo hi) := by
  unfold DL.cut cutV
  rw [t.len]
  exact (t.drop _).take _
theorem cut_map {α β : Type} (g : α → β) (xs : List α) (lo hi : Option Int) : cut (xs.map g) lo hi = (cut xs lo hi).map g := by
  unfold cut
  rw [List.length_map, List.map_take, List.map_drop]
theorem cutV_cut (xs : List V) (lo hi : Option Int) : cutV xs lo hi = cut xs lo hi := rfl
theorem flatL_ints (ns : List Int) : flatL (ns.map .int) = true := by
  rw [flatL_all]
  intro d m
  obtain ⟨n, _, rfl⟩ := List.mem_map.mp m
  rfl
variable {lo hi : Option Expr} {l h : DO} {p2 : Pos}
theorem ve_sl (ha : VE .B X G a f) (hl : VO X G lo l) (hh : VO X G hi h) : VE .N X G (.Subscript a (.Slice lo hi none p2) pos) (eSl f l h) := by
  obtain ⟨ta, pa, ia⟩ := ha.ex
  obtain ⟨tl, pl, il⟩ := hl.ex
  obtain ⟨th, ph, ih⟩ := hh.ex
  refine ⟨_, pe_slice (sl_list.or (sl_tup.or sl_str)) pa pl ph, fun hs σ H ds c Qd Q S q k => ?_⟩
  refine ia hs σ H ds c _ _ S q fun v1 H1 d1 c1 S1 s1 r1 q1 => ?_
  refine il hs σ H1 ds c1 _ _ S1 q1 fun lo' H2 c2 S2 s2 q2 => ?_
  refine ih hs σ H2 ds c2 _ _ S2 q2 fun hi' H3 c3 S3 s3 q3 => ?_
  obtain ⟨d, e, q4⟩ := opt_some q3
  have r : Rep (pB G) H3 d1 v1 := Rep.keep s3 (fun a z => z) _ _ (Rep.keep s2 (fun a z => z) _ _ (repB r1))
  have s13 := (s1.trans s2).trans s3
  have fin : ∀ v H', Nw H3 H' → Rep (pF G H3) H' d v → Q v H' := fun v H' n rr => k v H' d c3 (S3.grow n.sw (n.wi S3.winv)) (s13.trans n.sw) (RepM.back s13 (repN rr)) q4
  unfold dSl at e
  split at e
  · split at e
    · rename_i hf
      cases Option.some.inj e
      rw [rep_lst] at r
      obtain ⟨p, vs, rfl, _, h1, t⟩ := r
      exact .inl ⟨p, vs, rfl, SqL.of h1, fun z hz => fin _ _ (.new hz) (newLst S3.winv hz (flatL_cut hf) t.cut)⟩
    · cases e
  · cases Option.some.inj e
    rw [rep_scr] at r
    obtain ⟨p, o, rfl, h1⟩ := r
    refine .inl ⟨p, _, rfl, .inl (.inr ⟨o, h1⟩), fun z hz => fin _ _ (.new hz) (newLst (P := fun _ => True) S3.winv hz (flatL_ints _) ?_)⟩
    rw [cutV_cut, cut_map]
    exact repL_ints.mpr rfl
  · split at e
    · rename_i hf
      cases Option.some.inj e
      rw [rep_tup] at r
      obtain ⟨p, vs, rfl, h1, t⟩ := r
      exact .inr (.inl ⟨p, vs, rfl, SqT.of h1, by rw [t.len]; exact hf.2, fun z hz => fin _ _ (.new hz) (newTup hz (flatL_cut hf.1) t.cut)⟩)
    · cases e
  · split at e
    · rename_i hf
      cases Option.some.inj e
      rw [rep_str] at r
      refine .inr (.inr ⟨_, r, hf, fin _ _ .here (rep_str.mpr ?_)⟩)
      unfold cutS cut
      simp [Str.length]
    · cases e
  · cases e

/-! ### arguments, displays -/
variable {m : Md} {es : List Expr} {fa : DA}
def aN : DA := fun _ c Q => Q [] c
def aC (f : DE) (g : DA) : DA := fun ds c Q => f ds c fun x c1 => g ds c1 fun xs c2 => Q (x :: xs) c2
theorem va_nil : VA m X G [] aN := ⟨_, pa_nil, fun hs σ H ds c Qd Q S q k => k [] H [] c S .refl .nil q⟩
def Md.one : Md → Bool
  | .B => true | .E => true | .R => true | .N => true | _ => false
theorem one_eq {ds : DSt} {σ : St} {H : Hp} {m : Md} (h : m.one = true) : topP G ds σ H m = innP G ds σ H m := by
  cases m <;> first | rfl | cases h
theorem va_cons (ha : VE m X G a f) (hr : VA m X G es fa) (hm : m.one = true := by rfl) (hs : starEach (a :: es) X.env = (false, eval a X.env) :: starEach es X.env := by rfl) : VA m X G (a :: es) (aC f fa) := by
  obtain ⟨ta, pa, ia⟩ := ha.ex
  obtain ⟨tr, pr, ir⟩ := hr.ex
  refine ⟨_, pa_cons pa pr hs, fun hs σ H ds c Qd Q S q k => ?_⟩
  refine ia hs σ H ds c _ _ S q fun v1 H1 d1 c1 S1 s1 r1 q1 => ?_
  refine ir hs σ H1 ds c1 _ _ S1 q1 fun vs H2 xs c2 S2 s2 r2 q2 => ?_
  refine k _ H2 _ c2 S2 (s1.trans s2) (.cons ?_ (RepL.weak (fun a p _ => innP_back s1 a p) _ _ r2)) q2
  have r : RepM m G ds σ H H2 d1 v1 := RepM.keep s2 r1
  unfold RepM at r
  rw [one_eq hm] at r
  exact rep2_self.mp r
def eTup (g : DA) : DE := fun ds c Q => g ds c fun xs c1 => xs.length ≤ sizeLine ∧ Q (.tup xs) c1
theorem ve_tup {k : Nat} (h : VA m X G es fa) (hm : m.one = true := by rfl) : VE m X G (.Tuple es k pos) (eTup fa) := by
  obtain ⟨t, pt, it⟩ := h.ex
  refine ⟨_, pe_tup pt, fun hs σ H ds c Qd Q S q k => it hs σ H ds c _ _ S q fun vs H' xs c' S' s' r q' => ?_⟩
  refine ⟨by rw [r.len]; exact q'.1, fun p hp => ?_⟩
  refine k _ _ _ c' (S'.newO hp) (s'.trans (.new hp)) ?_ q'.2
  unfold RepM
  rw [one_eq hm]
  exact rep2_self.mpr (rep_tup.mpr ⟨p, vs, rfl, upd_same, RepL.keep (Lg := G.Lg) (.new hp) (innP_lg m) _ _ r⟩)
def eLst (g : DA) : DE := fun ds c Q => g ds c fun xs c1 => xs.length ≤ sizeLine ∧ Q (.lst xs) c1
theorem ve_lst (h : VA m X G es fa) (hm : m.one = true := by rfl) : VE m X G (.List es pos) (eLst fa) := by
  obtain ⟨t, pt, it⟩ := h.ex
  refine ⟨_, pe_lst pt, fun hs σ H ds c Qd Q S q k => it hs σ H ds c _ _ S q fun vs H' xs c' S' s' r q' => ?_⟩
  refine ⟨by rw [r.len]; exact q'.1, fun p hp => ?_⟩
  refine k _ _ _ c' (S'.newO hp) (s'.trans (.new hp)) ?_ q'.2
  refine ⟨p, vs, rfl, ?_, upd_same, RepL.keep (Lg := G.Lg) (.new hp) (innP_lg m) _ _ r⟩
  exact topP_back s' _ (topP_up S' (m := .N) rfl p (S'.fresh hp))
/-- .. its items may be held: a slot's own -/
theorem ve_lstO (h : VA .E X G es fa) : VE .O X G (.List es pos) (eLst fa) := by
  obtain ⟨t, pt, it⟩ := h.ex
  refine ⟨_, pe_lst pt, fun hs σ H ds c Qd Q S q k => it hs σ H ds c _ _ S q fun vs H' xs c' S' s' r q' => ?_⟩
  refine ⟨by rw [r.len]; exact q'.1, fun p hp => ?_⟩
  refine k _ _ _ c' (S'.newO hp) (s'.trans (.new hp)) ?_ q'.2
  exact ⟨p, vs, rfl, ⟨(S'.fresh hp).1, s'.dom p hp⟩, upd_same, RepL.keep (Lg := G.Lg) (.new hp) (innP_lg .E) _ _ r⟩

/-! ### a built-in called -/
def eCall (op : List D → Option D) (g : DA) : DE := fun ds c Q => g ds c fun xs c1 => opt (op xs) c1 Q
def SndC (G : Gc) (op : List D → Option D) (r : List V → Hp → VK → Prop) : Prop := ∀ (H : Hp) (c : Nat) (xs : List D) (us : List V) (d : D) (Q : VK), WInv G.T G.Lg c H → RepL (pB G) H xs us → op xs = some d → (∀ v H', Nw H H' → Rep (pF G H) H' d v → Q v H') → r us H Q
theorem ve_call_ {op : List D → Option D} {r : List V → Hp → VK → Prop} (ha : VA .B X G es fa) (mk : ∀ ta, PA X es ta → PE X e (tCB r ta)) (snd : SndC G op r) : VE .N X G e (eCall op fa) := by
  obtain ⟨t, pt, it⟩ := ha.ex
  refine ⟨_, mk t pt, fun hs σ H ds c Qd Q S q k => it hs σ H ds c _ _ S q fun vs H' xs c' S' s' r q' => ?_⟩
  obtain ⟨d, e, q2⟩ := opt_some q'
  exact snd H' c' xs vs d Q S'.winv r e fun v H2 n rr => k v H2 d c' (S'.grow n.sw (n.wi S'.winv)) (s'.trans n.sw) (RepM.back s' (repN rr)) q2
variable {x id T : String} {p : Pos}
structure BR (X : Cx) (G : Gc) (f : Value) (op : List D → Option D) : Prop where
  ex : ∃ r, CallR X f r ∧ SndC G op r
variable {x : Str} {op : List D → Option D}
theorem ve_bf (b : BR X G (.builtin id) op) (hg : Gl X x) (hm : X.mg x = none) (hv : bootBuiltins x = some (.builtin id)) (ha : VA .B X G (a :: es) fa) (hn : x ≠ "__name__" := by decide) (hdb : (x == ("__debug__" : Str)) = false := by decide)
    (he : starEach (a :: es) X.env = (false, eval a X.env) :: starEach es X.env := by rfl) (hpl : (backTo pos (starEach es X.env)).any (·.1) = false := by rfl) : VE .N X G (.Call (.Name x p) (a :: es) [] pos) (eCall op fa) := by
  obtain ⟨r, hc, hsn⟩ := b.ex
  exact ve_call_ ha (fun ta pa => pe_callB hc hg hm hv pa hn hdb he hpl) hsn
theorem ve_bt (b : BR X G (.type T) op) (hg : Gl X x) (hm : X.mg x = none) (hv : bootBuiltins x = some (.type T)) (ha : VA .B X G (a :: es) fa) (hn : x ≠ "__name__" := by decide) (hdb : (x == ("__debug__" : Str)) = false := by decide)
    (he : starEach (a :: es) X.env = (false, eval a X.env) :: starEach es X.env := by rfl) (hpl : (backTo pos (starEach es X.env)).any (·.1) = false := by rfl) : VE .N X G (.Call (.Name x p) (a :: es) [] pos) (eCall op fa) := by
  obtain ⟨r, hc, hsn⟩ := b.ex
  exact ve_call_ ha (fun ta pa => pe_callTy hc hg hm hv pa hn hdb he hpl) hsn
def dLen : List D → Option D
  | [.lst xs] => some (.int xs.length)
  | [.tup xs] => some (.int xs.length)
  | [.scr xs] => some (.int xs.length)
  | [.str z] => if z.length ≤ sizeLine then some (.int z.length) else none
  | _ => none
theorem br_len : BR X G (.builtin "len") dLen := ⟨_, call_len, fun H c xs us d Q W r e k => by
  unfold dLen at e
  split at e
  · cases Option.some.inj e
    obtain ⟨v, vr, rfl, r1, r2⟩ := r.uncons
    rw [r2.unnil]
    rw [rep_lst] at r1
    obtain ⟨p, vs, rfl, _, h1, t⟩ := r1
    exact ⟨_, _, rfl, .inl ⟨vs, SqL.of h1, rfl⟩, by rw [t.len]; exact k _ _ .here (rep_int.mpr rfl)⟩
  · cases Option.some.inj e
    obtain ⟨v, vr, rfl, r1, r2⟩ := r.uncons
    rw [r2.unnil]
    rw [rep_tup] at r1
    obtain ⟨p, vs, rfl, h1, t⟩ := r1
    exact ⟨_, _, rfl, .inr ⟨vs, SqT.of h1, rfl⟩, by rw [t.len]; exact k _ _ .here (rep_int.mpr rfl)⟩
  · cases Option.some.inj e
    obtain ⟨v, vr, rfl, r1, r2⟩ := r.uncons
    rw [r2.unnil]
    rw [rep_scr] at r1
    obtain ⟨p, o, rfl, h1⟩ := r1
    exact ⟨_, _, rfl, .inl ⟨_, .inl (.inr ⟨o, h1⟩), rfl⟩, by rw [List.length_map]; exact k _ _ .here (rep_int.mpr rfl)⟩
  · split at e
    · rename_i hz
      cases Option.some.inj e
      obtain ⟨v, vr, rfl, r1, r2⟩ := r.uncons
      rw [r2.unnil]
      rw [rep_str] at r1
      subst r1
      exact ⟨_, _, rfl, ⟨hz, rfl⟩, k _ _ .here (rep_int.mpr rfl)⟩
    · cases e
  · cases e⟩
def dMin2 : List D → Option D
  | [.int i, .int j] => some (.int (if j < i then j else i))
  | _ => none
theorem br_min2 (hc : X.calm = true) : BR X G (.builtin "min") dMin2 := ⟨_, call_min2 hc, fun H c xs us d Q W r e k => by
  unfold dMin2 at e
  split at e
  · cases Option.some.inj e
    obtain ⟨v, vr, rfl, r1, r2⟩ := r.uncons
    obtain ⟨v2, vr2, rfl, r3, r4⟩ := r2.uncons
    rw [r4.unnil]
    rw [rep_int] at r1 r3
    exact ⟨_, _, by rw [r1, r3], k _ _ .here (rep_int.mpr rfl)⟩
  · cases e⟩
/-- ints of a list of ints -/
def toInts : List D → Option (List Int)
  | [] => some []
  | .int i :: r => (toInts r).map (i :: ·)
  | _ => none
theorem toInts_eq : ∀ {xs : List D} {ns : List Int}, toInts xs = some ns → xs = ns.map .int
  | [], ns, h => by simp [toInts] at h; subst h; rfl
  | d :: r, ns, h => by
    cases d <;> simp only [toInts, reduceCtorEq, Option.map_eq_some_iff] at h
    obtain ⟨ms, h1, rfl⟩ := h
    rw [toInts_eq h1]; rfl
theorem toInts_map (ns : List Int) : toInts (ns.map .int) = some ns := by
  induction ns with
  | nil => rfl
  | cons n ns ih => simp [toInts, ih]
def dSum : List D → Option D
  | [.lst xs] => (toInts xs).map fun ns => .int ns.sum
  | _ => none
theorem br_sum (hc : X.calm = true) : BR X G (.builtin "sum") dSum := ⟨_, cr_sum hc, fun H c xs us d Q W r e k => by
  unfold dSum at e
  split at e
  · obtain ⟨ns, en, rfl⟩ := Option.map_eq_some_iff.mp e
    obtain ⟨v, vr, rfl, r1, r2⟩ := r.uncons
    rw [r2.unnil]
    rw [rep_lst, toInts_eq en] at r1
    obtain ⟨p, vs, rfl, _, h1, t⟩ := r1
    rw [repL_ints] at t
    subst t
    exact ⟨p, ns, rfl, SqL.of h1, k _ _ .here (rep_int.mpr rfl)⟩
  · cases e⟩
/-- list(..), tuple(..) of flat items -/
def dList : List D → Option D
  | [.lst xs] => if flatL xs = true then some (.lst xs) else none
  | [.tup xs] => if flatL xs = true then some (.lst xs) else none
  | _ => none
theorem br_list : BR X G (.type "list") dList := ⟨_, call_list_of, fun H c xs us d Q W r e k => by
  unfold dList at e
  split at e
  · split at e
    · rename_i hf
      cases Option.some.inj e
      obtain ⟨v, vr, rfl, r1, r2⟩ := r.uncons
      rw [r2.unnil]
      rw [rep_lst] at r1
      obtain ⟨p, vs, rfl, _, h1, t⟩ := r1
      exact ⟨p, vs, rfl, .inl (SqL.of h1), fun z hz => k _ _ (.new hz) (newLst W hz hf t)⟩
    · cases e
  · split at e
    · rename_i hf
      cases Option.some.inj e
      obtain ⟨v, vr, rfl, r1, r2⟩ := r.uncons
      rw [r2.unnil]
      rw [rep_tup] at r1
      obtain ⟨p, vs, rfl, h1, t⟩ := r1
      exact ⟨p, vs, rfl, .inr (SqT.of h1), fun z hz => k _ _ (.new hz) (newLst W hz hf t)⟩
    · cases e
  · cases e⟩
def dTuple : List D → Option D
  | [.lst xs] => if flatL xs = true then some (.tup xs) else none
  | _ => none
theorem br_tuple : BR X G (.type "tuple") dTuple := ⟨_, call_tuple_of, fun H c xs us d Q W r e k => by
  unfold dTuple at e
  split at e
  · split at e
    · rename_i hf
      cases Option.some.inj e
      obtain ⟨v, vr, rfl, r1, r2⟩ := r.uncons
      rw [r2.unnil]
      rw [rep_lst] at r1
      obtain ⟨p, vs, rfl, _, h1, t⟩ := r1
      exact ⟨p, vs, rfl, .inl ⟨SqL.of h1, fun z hz => k _ _ (.new hz) (newTup hz hf t)⟩⟩
    · cases e
  · cases e⟩
end

/-! ### defs: what they promise -/
abbrev FSp := List D → Nat → (D → Nat → Prop) → (Str → Nat → Prop) → Prop
structure Wd where
  T : List NdefX.NTab
  ca : Str → Addr
def liftSp (W : Wd) (n : Nat) (md : Bool) (sp : FSp) : Sp := fun vs H Q E => ∃ (Lg : Lgs) (A : Addr → Prop) (ds : List D) (c : Nat) (Qd : D → Nat → Prop) (Ed : Str → Nat → Prop),
  ds.length = n ∧ WInv W.T Lg c H ∧ RepL (fun a => Lg a = none ∧ A a) H ds vs ∧ sp ds c Qd Ed ∧
  (∀ v H' d c', SameW Lg H H' → WInv W.T Lg c' H' → Rep (fun a => Lg a = none ∧ (H a = none ∨ (md = true ∧ A a))) H' d v → Qd d c' → Q v H') ∧
  (∀ x c' H', SameW Lg H H' → WInv W.T Lg c' H' → Ed x c' → E (.ref (W.ca x)) none H')
/-- the def of the module's name x, its promise by data -/
structure FnD (P : Program) (w : World) (K : PySem.W.Frag) (mg : Str → Option Value) (base : Heap) (W : Wd) (k : Nat) (x : Str) (n : Nat) (md : Bool) (sp : FSp) : Prop where
  ex : ∃ f fd ps, FnOk P w K mg base (L2N.CX P w) k f fd ps (liftSp W n md sp) ∧ mg x = some (.ref f) ∧ PySem.W.keepIn K (.ref f) = true ∧ Binds K fd ps []
def Gc.wd (G : Gc) : Wd := ⟨G.T, G.ca⟩
section
variable {X : Cx} {G : Gc} {a : Expr} {es : List Expr} {fa : DA} {x : Str} {p pos : Pos} {k n : Nat} {sp : FSp}
abbrev Ep := Str → DSt → Nat → Prop
def noEp : Ep := fun _ _ _ => False
def eFn (ep : Ep) (n : Nat) (sp : FSp) (g : DA) : DE := fun ds c Q => g ds c fun xs c1 => xs.length = n ∧ sp xs c1 Q (fun x c2 => ep x ds c2)
theorem ve_fn {md : Bool} (F : FnD X.prog X.w X.K X.mg X.base G.wd k x n md sp) (hr : Room k X.A) (hg : Gl X x) (go : GOk X G) (ha : VA .B X G (a :: es) fa) (hmd : md = false := by rfl) (hn : (a :: es).length = n := by rfl)
    (hdb : (x == ("__debug__" : Str)) = false := by decide) (he : starEach (a :: es) X.env = (false, eval a X.env) :: starEach es X.env := by rfl) (hpl : (backTo pos (starEach es X.env)).any (·.1) = false := by rfl) : VE .N X G (.Call (.Name x p) (a :: es) [] pos) (eFn G.ep n sp fa) := by
  obtain ⟨f, fd, ps, Fo, hm, hk, hb⟩ := F.ex
  obtain ⟨t, pt, it⟩ := ha.ex
  refine ⟨_, pe_callS Fo hr hg hm hk hb (fun σ => L2N.passAt go.tk σ) pt hdb he hpl, fun hs σ H ds c Qd Q S q k => ?_⟩
  refine it hs σ H ds c _ _ S q fun vs H' xs c' S' s' r q' => ?_
  subst hmd
  refine ⟨G.Lg, fun _ => True, xs, c', Qd, fun x c2 => G.ep x ds c2, q'.1, S'.winv, RepL.weak (fun a p _ => ⟨p, trivial⟩) _ _ r, q'.2, fun v H2 d c2 s2 w2 r2 q2 => ?_, fun x c2 H2 s2 w2 q2 => ?_⟩
  · refine k v H2 d c2 (S'.grow s2 w2) (s'.trans s2) (RepM.back s' (repN (Rep.weak (fun a p _ => ⟨p.1, p.2.elim id fun z => nomatch z.1⟩) _ _ r2))) q2
  · exact go.link x hs ds c2 σ H2 (S'.grow s2 w2) q2
/-- .. of a def that may hand back what it was handed -/
theorem ve_fnE {md : Bool} (F : FnD X.prog X.w X.K X.mg X.base G.wd k x n md sp) (hr : Room k X.A) (hg : Gl X x) (go : GOk X G) (ha : VA .E X G (a :: es) fa) (hn : (a :: es).length = n := by rfl)
    (hdb : (x == ("__debug__" : Str)) = false := by decide) (he : starEach (a :: es) X.env = (false, eval a X.env) :: starEach es X.env := by rfl) (hpl : (backTo pos (starEach es X.env)).any (·.1) = false := by rfl) : VE .E X G (.Call (.Name x p) (a :: es) [] pos) (eFn G.ep n sp fa) := by
  obtain ⟨f, fd, ps, Fo, hm, hk, hb⟩ := F.ex
  obtain ⟨t, pt, it⟩ := ha.ex
  refine ⟨_, pe_callS Fo hr hg hm hk hb (fun σ => L2N.passAt go.tk σ) pt hdb he hpl, fun hs σ H ds c Qd Q S q k => ?_⟩
  refine it hs σ H ds c _ _ S q fun vs H' xs c' S' s' r q' => ?_
  refine ⟨G.Lg, pE G ds σ, xs, c', Qd, fun x c2 => G.ep x ds c2, q'.1, S'.winv, RepL.weak (fun a p _ => ⟨p.1, p⟩) _ _ r, q'.2, fun v H2 d c2 s2 w2 r2 q2 => ?_, fun x c2 H2 s2 w2 q2 => ?_⟩
  · refine k v H2 d c2 (S'.grow s2 w2) (s'.trans s2) (rep2_self.mpr (Rep.weak (fun a p _ => ?_) _ _ r2)) q2
    exact p.2.elim (fun z => S'.fE ⟨p.1, z⟩) fun z => z.2
  · exact go.link x hs ds c2 σ H2 (S'.grow s2 w2) q2
end
end DL

set_option Elab.async false
set_option linter.all false
set_option maxRecDepth 100000
set_option maxHeartbeats 4000000
/-! DL6: statements, loops, comprehensions. -/
namespace DL
open PySem PySem.Spec L2

section
variable {G : Gc} {hs hd : List (D × V)} {σ : St} {H H' H1 H2 : Hp} {ds : DSt} {c c' c1 : Nat} {d : D} {v : V} {a : Addr}
theorem StR.unheld (S : StR G (hd ++ hs) σ H ds c) : StR G hs σ H ds c := ⟨S.same, S.winv, S.len, S.sh, S.ow, S.apart, fun q hq => S.held q (by rw [List.append_assoc]; exact List.mem_append_right _ hq), S.ghd⟩
theorem StR.hold (S : StR G hs σ H ds c) (h : ∀ q ∈ hd, Rep (pE G ds σ) H q.1 q.2) : StR G (hd ++ hs) σ H ds c := ⟨S.same, S.winv, S.len, S.sh, S.ow, S.apart, fun q hq => (List.mem_append.mp (by rw [List.append_assoc] at hq; exact hq)).elim (h q) (S.held q), S.ghd⟩
end
section
variable {X : Cx} {G : Gc} {st : Stmt} {rest : List Stmt} {g h : DS} {e a b : Expr} {f : DE} {pos pos' : Pos} {m : Md} {x : Str} {i : Nat}

/-! ### blocks -/
def sNx : DS := fun K ds c => K.nx ds c
def sSq (g h : DS) : DS := fun K ds c => g { K with nx := h K } ds c
theorem vss_nil : VSs X G [] sNx := ⟨_, pss_nil, fun hs σ H ds c K E S q k => k.nx σ H ds c S q⟩
theorem vss_cons (h1 : VS X G st g) (h2 : VSs X G rest h) : VSs X G (st :: rest) (sSq g h) := by
  obtain ⟨t, pt, it⟩ := h1.ex
  obtain ⟨u, pu, iu⟩ := h2.ex
  refine ⟨_, pss_cons pt pu, fun hs σ H ds c K E S q k => ?_⟩
  exact it hs σ H ds c _ _ S q ⟨fun σ' H' ds' c' S' q' => iu hs σ' H' ds' c' K E S' q' k, k.rt, k.bk, k.ct⟩
theorem vss_one (h1 : VS X G st g) : VSs X G [st] g := by
  obtain ⟨t, pt, it⟩ := h1.ex
  exact ⟨_, pss_one pt, it⟩
def sBk : DS := fun K ds c => K.bk ds c
def sCt : DS := fun K ds c => K.ct ds c
theorem vs_pass : VS X G (.Pass pos) sNx := ⟨_, ps_pass, fun hs σ H ds c K E S q k => k.nx σ H ds c S q⟩
theorem vs_break : VS X G (.Break pos) sBk := ⟨_, ps_break, fun hs σ H ds c K E S q k => k.bk σ H ds c S q⟩
theorem vs_continue : VS X G (.Continue pos) sCt := ⟨_, ps_continue, fun hs σ H ds c K E S q k => k.ct σ H ds c S q⟩
theorem vs_doc {z j} : VS X G (.Expr (.Constant (.str z) j pos) pos') sNx := ⟨_, ps_doc, fun hs σ H ds c K E S q k => k.nx σ H ds c S q⟩
def sEx (f : DE) : DS := fun K ds c => f ds c fun _ c' => K.nx ds c'
theorem vs_expr (he : VE m X G e f) (hs : swapsWith e none pos.line X.env = pure false := by rfl) : VS X G (.Expr e pos) (sEx f) := by
  obtain ⟨t, pt, it⟩ := he.ex
  exact ⟨_, ps_expr pt hs, fun hs σ H ds c K E S q k => it hs σ H ds c _ _ S q fun v H' d c' S' s' r q' => k.nx σ H' ds c' S' q'⟩
def sRt (f : DE) : DS := fun K ds c => f ds c K.rt
theorem vs_ret (he : VE .R X G e f) : VS X G (.Return (some e) pos) (sRt f) := by
  obtain ⟨t, pt, it⟩ := he.ex
  exact ⟨_, ps_ret pt, fun hs σ H ds c K E S q k => it hs σ H ds c _ _ S q fun v H' d c' S' s' r q' => k.rt σ H' ds c' v d S' (rep2_self.mp r) q'⟩
def sRtN : DS := fun K _ c => K.rt .non c
theorem vs_retN : VS X G (.Return none pos) sRtN := ⟨_, ps_retN, fun hs σ H ds c K E S q k => k.rt σ H ds c .non .non S (rep_non.mpr rfl) q⟩
def sIf (p : DT) (g h : DS) : DS := fun K ds c => p ds c fun b c' => if b = true then g K ds c' else h K ds c'
theorem vs_if {c : Expr} {as bs : List Stmt} {p : DT} (hc : VT X G c p) (ha : VSs X G as g) (hb : VSs X G bs h) : VS X G (.If c as bs pos) (sIf p g h) := by
  obtain ⟨t, pt, it⟩ := hc.ex
  obtain ⟨t1, pt1, it1⟩ := ha.ex
  obtain ⟨t2, pt2, it2⟩ := hb.ex
  refine ⟨_, ps_if pt pt1 pt2, fun hs σ H ds c K E S q k => it hs σ H ds c _ _ S q fun z H' c' S' s' q' => ?_⟩
  cases z with
  | true =>
    rw [if_pos rfl] at q' ⊢
    exact it1 hs σ H' ds c' K E S' q' k
  | false =>
    rw [if_neg Bool.false_ne_true] at q' ⊢
    exact it2 hs σ H' ds c' K E S' q' k
/-- conclusions of a statement's reading may be turned -/
theorem VS.imp {g' : DS} (hg : VS X G st g) (hi : ∀ K ds c, g' K ds c → g K ds c) : VS X G st g' := by
  obtain ⟨t, pt, it⟩ := hg.ex
  exact ⟨t, pt, fun hs σ H ds c K E S q k => it hs σ H ds c K E S (hi _ _ _ q) k⟩
theorem VSs.imp {sts : List Stmt} {g' : DS} (hg : VSs X G sts g) (hi : ∀ K ds c, g' K ds c → g K ds c) : VSs X G sts g' := by
  obtain ⟨t, pt, it⟩ := hg.ex
  exact ⟨t, pt, fun hs σ H ds c K E S q k => it hs σ H ds c K E S (hi _ _ _ q) k⟩

/-! ### stores -/
def sSh (i : Nat) (f : DE) : DS := fun K ds c => f ds c fun d c' => K.nx (ds.set i (.sh d)) c'
def isC : D → Bool
  | .lst _ => true | .dct _ _ => true | _ => false
def sOw (i : Nat) (f : DE) : DS := fun K ds c => f ds c fun d c' => (isC d = true ∧ elF d = true) ∧ K.nx (ds.set i (.ow d)) c'
theorem own_store {hs : List (D × V)} {σ : St} {H H' : Hp} {ds : DSt} {c c' : Nat} {d : D} {v : V} {K : DK} {E : Ends} (S : StR G hs σ H ds c) (S' : StR G hs σ H' ds c') (s' : SameW G.Lg H H') (r : RepM .O G ds σ H H' d v) (hc : isC d = true) (hf : elF d = true)
    (q : K.nx (ds.set i (.ow d)) c') (k : EndsOk G hs K E) : E.nx (σ.set i (some v)) H' := by
  cases d with
  | lst xs =>
    obtain ⟨p, vs, rfl, hp, h1, t⟩ := r
    exact k.nx _ _ _ _ (StR.setOw S s' S'.winv hp.2 (show OwnOk _ H' p (.lst xs) from ⟨vs, h1, RepL.flat _ _ hf t⟩)) q
  | dct ks es =>
    obtain ⟨p, kvs, rfl, hp, h1, h2, t⟩ := r
    exact k.nx _ _ _ _ (StR.setOw S s' S'.winv hp.2 (show OwnOk _ H' p (.dct ks es) from ⟨kvs, h1, h2, RepL.flat _ _ hf t⟩)) q
  | _ => cases hc
theorem vs_sh (hN : X.N.Nodup) (hi : X.N[i]? = some x) (hx : Loc X.env.scope x) (he : VE .E X G e f) (hs : swapsWith e (some (.Name x pos')) pos.line X.env = pure false := by rfl) (hf : X.fn x = true ∨ X.env.scope.names.lookup x = some .local := by first | exact .inl rfl | exact .inr rfl | assumption) :
    VS X G (.Assign [.Name x pos'] e pos) (sSh i f) := by
  obtain ⟨t, pt, it⟩ := he.ex
  exact ⟨_, ps_set hN hi hx pt hs hf, fun hs σ H ds c K E S q k => it hs σ H ds c _ _ S q fun v H' d c' S' s' r q' => k.nx _ _ _ _ (S'.setSh (rep2_self.mp r)) q'⟩
theorem vs_ow (hN : X.N.Nodup) (hi : X.N[i]? = some x) (hx : Loc X.env.scope x) (he : VE .O X G e f) (hs : swapsWith e (some (.Name x pos')) pos.line X.env = pure false := by rfl) (hf : X.fn x = true ∨ X.env.scope.names.lookup x = some .local := by first | exact .inl rfl | exact .inr rfl | assumption) :
    VS X G (.Assign [.Name x pos'] e pos) (sOw i f) := by
  obtain ⟨t, pt, it⟩ := he.ex
  exact ⟨_, ps_set hN hi hx pt hs hf, fun hs σ H ds c K E S q k => it hs σ H ds c _ _ S q fun v H' d c' S' s' r q' => own_store S S' s' r q'.1.1 q'.1.2 q'.2 k⟩
/-- a slot's own one becomes shared -/
def sFz (i : Nat) (g : DS) : DS := fun K ds c => match ds[i]? with
  | some (.ow d) => g K (ds.set i (.sh d)) c
  | _ => g K ds c
theorem vss_fz {sts : List Stmt} (i : Nat) (hg : VSs X G sts g) : VSs X G sts (sFz i g) := by
  obtain ⟨t, pt, it⟩ := hg.ex
  refine ⟨t, pt, fun hs σ H ds c K E S q k => ?_⟩
  unfold sFz at q
  split at q
  · exact it hs σ H _ c K E (S.freeze (by assumption)) q k
  · exact it hs σ H ds c K E S q k
/-- x op= e -/
def sAu (i : Nat) (op : D → D → Option D) (f : DE) : DS := fun K ds c => match ds[i]? with
  | some (.sh d) => f ds c fun y c1 => match op d y with
    | some z => flat z = true ∧ K.nx (ds.set i (.sh z)) c1
    | none => False
  | _ => False
theorem vs_aug {op : Operator} {dop : D → D → Option D} {r : R2} (ho : OpR X (inplaceOp op) r) (sn : Snd2 G dop r) (hN : X.N.Nodup) (hi : X.N[i]? = some x) (hx : Loc X.env.scope x) (he : VE .B X G e f) (hf : X.fn x = true ∨ X.env.scope.names.lookup x = some .local := by first | exact .inl rfl | exact .inr rfl | assumption) :
    VS X G (.AugAssign (.Name x pos') op e pos) (sAu i dop f) := by
  obtain ⟨t, pt, it⟩ := he.ex
  refine ⟨_, ps_aug hN hi hx pt (ti := r) ho hf, fun hs σ H ds c K E S q k => ?_⟩
  unfold sAu at q
  split at q
  · rename_i d e0
    obtain ⟨v, e1, r1⟩ := S.sh i d e0
    refine ⟨v, e1, it hs σ H ds c _ _ S q fun w H' y c' S' s' r2 q' => ?_⟩
    split at q'
    · rename_i z ez
      refine sn H' c' d y v w z _ S'.winv (Rep.weak (fun a p _ => p.1) _ _ (Rep.keep s' pE_lg _ _ r1)) (repB r2) ez fun u H2 n rr => ?_
      exact k.nx _ _ _ _ ((S'.grow n.sw (n.wi S'.winv)).setSh (repFlat q'.1 rr)) q'.2
    · exact q'.elim
  · exact q.elim
theorem vs_augAdd (hN : X.N.Nodup) (hi : X.N[i]? = some x) (hx : Loc X.env.scope x) (he : VE .B X G e f) (hf : X.fn x = true ∨ X.env.scope.names.lookup x = some .local := by first | exact .inl rfl | exact .inr rfl | assumption) :
    VS X G (.AugAssign (.Name x pos') .Add e pos) (sAu i (dInt fun i j => some (i + j)) f) := vs_aug iop_add snd_int0 hN hi hx he hf
theorem vs_augSub (hN : X.N.Nodup) (hi : X.N[i]? = some x) (hx : Loc X.env.scope x) (he : VE .B X G e f) (hf : X.fn x = true ∨ X.env.scope.names.lookup x = some .local := by first | exact .inl rfl | exact .inr rfl | assumption) :
    VS X G (.AugAssign (.Name x pos') .Sub e pos) (sAu i dSub f) := vs_aug iop_sub snd_int0 hN hi hx he hf
def dMulI : D → D → Option D := dInt fun i j => if (-(2 ^ 64) < i ∧ i < 2 ^ 64) ∨ (-(2 ^ 64) < j ∧ j < 2 ^ 64) then some (i * j) else none
theorem vs_augMul (hN : X.N.Nodup) (hi : X.N[i]? = some x) (hx : Loc X.env.scope x) (he : VE .B X G e f) (hf : X.fn x = true ∨ X.env.scope.names.lookup x = some .local := by first | exact .inl rfl | exact .inr rfl | assumption) :
    VS X G (.AugAssign (.Name x pos') .Mult e pos) (sAu i dMulI f) := vs_aug iop_mul (snd_int fun i j k h => by
  split at h
  · exact ⟨by assumption, (Option.some.inj h).symm⟩
  · cases h) hN hi hx he hf
/-- targets -/
abbrev DG := D → DSt → (DSt → Prop) → Prop
structure VG (X : Cx) (G : Gc) (tg : Expr) (f : DG) : Prop where
  ex : ∃ t, PG X tg t ∧ ∀ hs σ H ds c v d Qd Q, StR G hs σ H ds c → Rep (pE G ds σ) H d v → f d ds Qd → (∀ σ' ds', StR G hs σ' H ds' c → Qd ds' → Q σ' H) → t v σ H Q
def gN (i : Nat) : DG := fun d ds Q => Q (ds.set i (.sh d))
theorem vg_name (hN : X.N.Nodup) (hi : X.N[i]? = some x) (hx : Loc X.env.scope x) (hf : X.fn x = true ∨ X.env.scope.names.lookup x = some .local := by first | exact .inl rfl | exact .inr rfl | assumption) : VG X G (.Name x pos) (gN i) :=
  ⟨_, pg_name hN hi hx hf, fun hs σ H ds c v d Qd Q S r q k => k _ _ (S.setSh r) q⟩
abbrev DGs := List D → DSt → (DSt → Prop) → Prop
structure VGs (X : Cx) (G : Gc) (ts : List Expr) (f : DGs) : Prop where
  ex : ∃ t, PGs X ts t ∧ ∀ hs σ H ds c vs xs Qd Q, StR G hs σ H ds c → RepL (pE G ds σ) H xs vs → f xs ds Qd → (∀ σ' ds', StR G hs σ' H ds' c → Qd ds' → Q σ' H) → t vs σ H Q
def gsN : DGs := fun xs ds Q => xs = [] ∧ Q ds
def gsC (i : Nat) (f : DGs) : DGs := fun xs ds Q => match xs with
  | x :: r => f r (ds.set i (.sh x)) Q
  | [] => False
theorem vgs_nil : VGs X G [] gsN := ⟨_, pgs_nil, fun hs σ H ds c vs xs Qd Q S r q k => by
  obtain ⟨rfl, q⟩ := q
  exact ⟨r.unnil, k _ _ S q⟩⟩
theorem vgs_cons {ts : List Expr} {f : DGs} (hN : X.N.Nodup) (hi : X.N[i]? = some x) (hx : Loc X.env.scope x) (h2 : VGs X G ts f) (hf : X.fn x = true ∨ X.env.scope.names.lookup x = some .local := by first | exact .inl rfl | exact .inr rfl | assumption)
    (hs : (assignEach (.Name x pos :: ts) X.env).map (·.2) = assign (.Name x pos) X.env :: (assignEach ts X.env).map (·.2) := by rfl) : VGs X G (.Name x pos :: ts) (gsC i f) := by
  obtain ⟨t, pt, it⟩ := h2.ex
  refine ⟨_, pgs_cons (pg_name hN hi hx hf) pt hs, fun hs σ H ds c vs xs Qd Q S r q k => ?_⟩
  cases xs with
  | nil => exact q.elim
  | cons d xs =>
    obtain ⟨v, vr, rfl, r1, r2⟩ := r.uncons
    refine ⟨v, vr, rfl, ?_⟩
    have S2 := S.setSh (i := i) r1
    refine it hs _ H _ c vr xs Qd Q S2 (RepL.weak (fun a p _ => ⟨p.1, fun m => p.2.1 (mo_set S.len m (fun _ z => nomatch z)), p.2.2⟩) _ _ r2) q k
def gT (n : Nat) (f : DGs) : DG := fun d ds Q => match d with
  | .tup xs => xs.length = n ∧ f xs ds Q
  | _ => False
theorem vg_tup {es : List Expr} {k : Nat} {f : DGs} {n : Nat} (hc : X.calm = true) (h : VGs X G es f)
    (hn : (assignEach es X.env).length = n := by rfl) (hst : (assignEach es X.env).findIdx? (·.1) = none := by rfl) : VG X G (.Tuple es k pos) (gT n f) := by
  obtain ⟨t, pt, it⟩ := h.ex
  refine ⟨_, pg_tup hc pt hn hst, fun hs σ H ds c v d Qd Q S r q k => ?_⟩
  cases d with
  | tup xs =>
    rw [rep_tup] at r
    obtain ⟨a, vs, rfl, h1, tl⟩ := r
    exact ⟨a, vs, rfl, SqT.of h1, by rw [tl.len]; exact q.1, it hs σ H ds c vs xs Qd Q S tl q.2 k⟩
  | _ => exact q.elim
def sAsg (f : DE) (tg : DG) : DS := fun K ds c => f ds c fun d c' => tg d ds fun ds' => K.nx ds' c'
theorem vs_asg {tg : Expr} {gf : DG} (he : VE .E X G e f) (hg : VG X G tg gf) (hs : swapsWithSole [tg] e pos.line X.env = pure false := by rfl) (hw : swappedStores [tg] e X.env = pure none := by rfl)
    (h1 : (assignEach [tg] X.env).map (·.2) = [assign tg X.env] := by rfl) : VS X G (.Assign [tg] e pos) (sAsg f gf) := by
  obtain ⟨t, pt, it⟩ := he.ex
  obtain ⟨u, pu, iu⟩ := hg.ex
  refine ⟨_, ps_asg pt pu hs hw h1, fun hs σ H ds c K E S q k => it hs σ H ds c _ _ S q fun v H' d c' S' s' r q' => ?_⟩
  exact iu hs σ H' ds c' v d _ _ S' (rep2_self.mp r) q' fun σ' ds' S2 q2 => k.nx _ _ _ _ S2 q2
/-- xs[k] = e, xs a slot's own list -/
def sIxS (i : Nat) (f fk : DE) : DS := fun K ds c => f ds c fun d c1 => match ds[i]? with
  | some (.ow (.lst xs)) => fk ds c1 fun y c2 => match y with
    | .int n => match ixN xs.length n with
      | some j => K.nx (ds.set i (.ow (.lst (xs.set j d)))) c2
      | none => False
    | _ => False
  | _ => False
theorem vs_ixs {o : Expr} {tpos : Pos} {fk : DE} (hN : X.N[i]? = some x) (hv : Vis X.env.scope x) (he : VE .E X G e f) (hk : VE .B X G b fk)
    (ha : ∀ v, assign (.Subscript (.Name x pos') b tpos) X.env v = (do
      let ov ← holding [v] (eval (.Name x pos') X.env)
      let iv ← holding [v, ov] (eval b X.env)
      standAt tpos
      holding [v, ov, iv] (setItem ov iv v)
      release [v, ov, iv] []) := by intro _; rfl)
    (hs : swapsWithSole [.Subscript (.Name x pos') b tpos] e pos.line X.env = pure false := by rfl) (hw : swappedStores [.Subscript (.Name x pos') b tpos] e X.env = pure none := by rfl)
    (h1 : (assignEach [.Subscript (.Name x pos') b tpos] X.env).map (·.2) = [assign (.Subscript (.Name x pos') b tpos) X.env] := by rfl)
    (hd : (x == ("__debug__" : Str)) = false := by decide) (hcd : (x == ("__classdict__" : Str)) = false := by decide) : VS X G (.Assign [.Subscript (.Name x pos') b tpos] e pos) (sIxS i f fk) := by
  obtain ⟨t, pt, it⟩ := he.ex
  obtain ⟨u, pu, iu⟩ := hk.ex
  refine ⟨_, ps_asg pt (pg_sub (pe_var hN hv hd hcd) pu set_list ha) hs hw h1, fun hs σ H ds c K E S q k => it hs σ H ds c _ _ S q fun v H' d c' S' s' r q' => ?_⟩
  split at q'
  · rename_i xs e0
    obtain ⟨p, e1, h0, hl, vs, h2, tl⟩ := S'.ow i _ e0
    refine ⟨_, e1, iu hs σ H' ds c' _ _ S' q' fun y H2 dy c2 S2 s2 r2 q2 => ?_⟩
    split at q2
    · rename_i n
      split at q2
      · rename_i j ej
        have r2 := repB r2
        rw [rep_int] at r2
        obtain ⟨p', e1', _, _, vs', h2', tl'⟩ := S2.ow i _ e0
        rw [e1] at e1'
        cases e1'
        refine ⟨p, vs', n, j, rfl, r2, h2', by rw [tl'.len]; exact ej, ?_⟩
        refine k.nx _ _ _ _ (S2.write e0 e1 ?_) q2
        have np : ¬ pE G ds σ p := fun z => z.2.1 (.inr ⟨i, _, e0, e1⟩)
        have hm : Mut (H2 p) := by rw [h2']; exact trivial
        exact ⟨_, upd_same, RepL.set (Rep.write (fun b hb => upd_ne hb) hm np _ _ (Rep.keep s2 pE_lg _ _ (rep2_self.mp r))) j (RepL.write (fun b hb => upd_ne hb) hm np _ _ tl')⟩
      · exact q2.elim
    · exact q2.elim
  · exact q'.elim
/-- xs.append(e) -/
def sApp (i : Nat) (f : DE) : DS := fun K ds c => match ds[i]? with
  | some (.ow (.lst xs)) => f ds c fun d c1 => xs.length < sizeLine ∧ K.nx (ds.set i (.ow (.lst (xs ++ [d])))) c1
  | _ => False
/-- what an own list's change is to show -/
theorem own_lst {hs : List (D × V)} {σ : St} {H : Hp} {ds : DSt} {c : Nat} {xs ys : List D} {us : List V} {p : Addr} (S : StR G hs σ H ds c) (e0 : ds[i]? = some (.ow (.lst xs))) (e1 : σ[i]? = some (some (.ref p))) (t : RepL (pE G ds σ) H ys us) (h2 : ∃ o, H p = some o ∧ Wr o) :
    StR G hs σ (upd H p (.lst us)) (ds.set i (.ow (.lst ys))) c := by
  refine S.write e0 e1 ?_
  have np : ¬ pE G ds σ p := fun z => z.2.1 (.inr ⟨i, _, e0, e1⟩)
  obtain ⟨o, h2, hw⟩ := h2
  have hm : Mut (H p) := by rw [h2]; rcases hw with ⟨_, rfl⟩ | ⟨_, rfl⟩ <;> exact trivial
  exact ⟨_, upd_same, RepL.write (fun b hb => upd_ne hb) hm np _ _ t⟩
theorem vs_app {apos spos : Pos} (hN : X.N[i]? = some x) (hv : Vis X.env.scope x) (he : VE .E X G e f)
    (hbase : attributeBase (.Name x pos') "append" X.env (eval (.Name x pos') X.env) = eval (.Name x pos') X.env := by rfl)
    (hfew : ((backTo pos (starEach (e :: []) X.env)).all (fun x => !x.1) && (backToKw pos (keywordEach [] X.env)).all (fun x => x.1.isSome)
      && decide ((e :: ([] : List Expr)).length + ([] : List Keyword).length + (if ([] : List Keyword).isEmpty then 0 else 1) < 30)) = true := by rfl)
    (hline : (apos.endLine == pos.line) = true := by rfl) (hse : starEach (e :: []) X.env = (false, eval e X.env) :: starEach [] X.env := by rfl) (hplain : (backTo pos (starEach [] X.env)).any (·.1) = false := by rfl)
    (hs : swapsWith (.Call (.Attribute (.Name x pos') "append" apos) [e] [] pos) none spos.line X.env = pure false := by rfl)
    (hd : (x == ("__debug__" : Str)) = false := by decide) (hcd : (x == ("__classdict__" : Str)) = false := by decide) : VS X G (.Expr (.Call (.Attribute (.Name x pos') "append" apos) [e] [] pos) spos) (sApp i f) := by
  obtain ⟨t, pt, it⟩ := he.ex
  refine ⟨_, ps_expr (pe_bm PySem.F.plainAttrs_list PySem.F.slot_list_append PySem.F.type_list_append (mt_append (X := X)) (pe_var hN hv hd hcd) (pa_cons pt pa_nil hse) hbase hfew hline hse hplain) hs, fun hs σ H ds c K E S q k => ?_⟩
  unfold sApp at q
  split at q
  · rename_i xs e0
    obtain ⟨p, e1, h0, hl, vs, h2, tl⟩ := S.ow i _ e0
    refine ⟨_, e1, .inl ⟨rfl, _, SqL.of h2⟩, it hs σ H ds c _ _ S q fun v H' d c' S' s' r q' => ?_⟩
    obtain ⟨p', e1', _, _, vs', h2', tl'⟩ := S'.ow i _ e0
    rw [e1] at e1'
    cases e1'
    refine ⟨p, vs', v, rfl, rfl, h2', by rw [tl'.len]; exact q'.1, ?_⟩
    exact k.nx _ _ _ _ (own_lst S' e0 e1 (tl'.append (.one (rep2_self.mp r))) ⟨_, h2', .inl ⟨_, rfl⟩⟩) q'.2
  · exact q.elim
/-- xs.extend(ys), xs += ys, of flat items -/
def sExt (i : Nat) (f : DE) : DS := fun K ds c => match ds[i]? with
  | some (.ow (.lst xs)) => f ds c fun d c1 => match d with
    | .lst ys => (flatL ys = true ∧ xs.length + ys.length ≤ sizeLine) ∧ K.nx (ds.set i (.ow (.lst (xs ++ ys)))) c1
    | _ => False
  | _ => False
theorem vs_ext {apos spos : Pos} (hN : X.N[i]? = some x) (hv : Vis X.env.scope x) (he : VE .B X G e f)
    (hbase : attributeBase (.Name x pos') "extend" X.env (eval (.Name x pos') X.env) = eval (.Name x pos') X.env := by rfl)
    (hfew : ((backTo pos (starEach (e :: []) X.env)).all (fun x => !x.1) && (backToKw pos (keywordEach [] X.env)).all (fun x => x.1.isSome)
      && decide ((e :: ([] : List Expr)).length + ([] : List Keyword).length + (if ([] : List Keyword).isEmpty then 0 else 1) < 30)) = true := by rfl)
    (hline : (apos.endLine == pos.line) = true := by rfl) (hse : starEach (e :: []) X.env = (false, eval e X.env) :: starEach [] X.env := by rfl) (hplain : (backTo pos (starEach [] X.env)).any (·.1) = false := by rfl)
    (hs : swapsWith (.Call (.Attribute (.Name x pos') "extend" apos) [e] [] pos) none spos.line X.env = pure false := by rfl)
    (hd : (x == ("__debug__" : Str)) = false := by decide) (hcd : (x == ("__classdict__" : Str)) = false := by decide) : VS X G (.Expr (.Call (.Attribute (.Name x pos') "extend" apos) [e] [] pos) spos) (sExt i f) := by
  obtain ⟨t, pt, it⟩ := he.ex
  refine ⟨_, ps_expr (pe_bm PySem.F.plainAttrs_list PySem.F.slot_list_extend PySem.F.type_list_extend (mt_extend (X := X)) (pe_var hN hv hd hcd) (pa_cons pt pa_nil hse) hbase hfew hline hse hplain) hs, fun hs σ H ds c K E S q k => ?_⟩
  unfold sExt at q
  split at q
  · rename_i xs e0
    obtain ⟨p, e1, h0, hl, vs, h2, tl⟩ := S.ow i _ e0
    refine ⟨_, e1, .inl ⟨rfl, _, SqL.of h2⟩, it hs σ H ds c _ _ S q fun v H' d c' S' s' r q' => ?_⟩
    obtain ⟨p', e1', _, _, vs', h2', tl'⟩ := S'.ow i _ e0
    rw [e1] at e1'
    cases e1'
    split at q'
    · rename_i ys
      have r := repB r
      rw [rep_lst] at r
      obtain ⟨b, us, rfl, _, h3, t3⟩ := r
      refine ⟨p, b, vs', us, rfl, rfl, h2', h3, by rw [tl'.len, t3.len]; exact q'.1.2, ?_⟩
      exact k.nx _ _ _ _ (own_lst S' e0 e1 (tl'.append (RepL.flat _ _ q'.1.1 t3)) ⟨_, h2', .inl ⟨_, rfl⟩⟩) q'.2
    · exact q'.elim
  · exact q.elim
theorem vs_augExt (hN : X.N.Nodup) (hi : X.N[i]? = some x) (hx : Loc X.env.scope x) (he : VE .B X G e f) (hf : X.fn x = true ∨ X.env.scope.names.lookup x = some .local := by first | exact .inl rfl | exact .inr rfl | assumption) :
    VS X G (.AugAssign (.Name x pos') .Add e pos) (sExt i f) := by
  obtain ⟨t, pt, it⟩ := he.ex
  refine ⟨_, ps_aug hN hi hx pt (ti := rExt2) iop_ext hf, fun hs σ H ds c K E S q k => ?_⟩
  unfold sExt at q
  split at q
  · rename_i xs e0
    obtain ⟨p, e1, h0, hl, vs, h2, tl⟩ := S.ow i _ e0
    refine ⟨_, e1, it hs σ H ds c _ _ S q fun v H' d c' S' s' r q' => ?_⟩
    obtain ⟨p', e1', _, _, vs', h2', tl'⟩ := S'.ow i _ e0
    rw [e1] at e1'
    cases e1'
    split at q'
    · rename_i ys
      have r := repB r
      rw [rep_lst] at r
      obtain ⟨b, us, rfl, _, h3, t3⟩ := r
      refine ⟨p, b, vs', us, rfl, rfl, h2', h3, by rw [tl'.len, t3.len]; exact q'.1.2, ?_⟩
      have eσ : σ.set i (some (V.ref p)) = σ := by
        obtain ⟨h1, h2⟩ := List.getElem?_eq_some_iff.mp e1
        rw [← h2]; exact List.set_getElem_self h1
      show E.nx (σ.set i (some (V.ref p))) _
      rw [eσ]
      exact k.nx _ _ _ _ (own_lst S' e0 e1 (tl'.append (RepL.flat _ _ q'.1.1 t3)) ⟨_, h2', .inl ⟨_, rfl⟩⟩) q'.2
    · exact q'.elim
  · exact q.elim
end
end DL

set_option Elab.async false
set_option linter.all false
set_option maxRecDepth 100000
set_option maxHeartbeats 4000000
/-! DL7: loops, comprehensions. -/
namespace DL
open PySem PySem.Spec L2

/-! ### what is walked -/
abbrev DI := DSt → Nat → (List D → Nat → Prop) → Prop
abbrev Gc.gho (G : Gc) (gh : Addr → Prop) : Gc := { G with gh := gh }
/-- J tells the data xs one by one while hd is held -/
def Wk (G : Gc) (J : It) (xs : List D) (hd : List (D × V)) : Prop := ∀ (gh : Addr → Prop) (hs : List (D × V)) (σ : St) (H : Hp) (ds : DSt) (c i : Nat), StR (G.gho gh) hs σ H ds c →
  (∀ q ∈ hd, Rep2 (pB G) (pE (G.gho gh) ds σ) H q.1 q.2) →
  (i < xs.length → J.go i H ∧ ∀ x H', J.yld i H x H' → ∃ d, xs[i]? = some d ∧ SameW G.Lg H H' ∧ WInv G.T G.Lg c H' ∧ Rep (pE (G.gho gh) ds σ) H' d x) ∧
  (xs.length ≤ i → J.stop i H)
structure VI (m : Md) (X : Cx) (G : Gc) (tg iter : Expr) (f : DI) : Prop where
  ex : ∃ wi, PI X tg iter wi ∧ ∀ hs σ H ds c Qd R, StR G hs σ H ds c → f ds c Qd →
    (∀ J H' xs c' hd, StR G hs σ H' ds c' → SameW G.Lg H H' → (∀ q ∈ hd, RepM m G ds σ H H' q.1 q.2) → Wk G J xs hd → Qd xs c' → R J H') → wi σ H R
section
variable {X : Cx} {G : Gc} {tg e e2 : Expr} {f g : DE} {pos p : Pos} {fa : DA} {m : Md}
theorem VI.up {m' : Md} {fi : DI} (h : VI m X G tg e fi) (hm : Md.le m m' = true := by rfl) : VI m' X G tg e fi := by
  obtain ⟨t, pt, it⟩ := h.ex
  exact ⟨t, pt, fun hs σ H ds c Qd R S q k => it hs σ H ds c Qd R S q fun J H' xs c' hd S' s' r w q' => k J H' xs c' hd S' s' (fun q hq => RepM.up S hm (r q hq)) w q'⟩
/-- a list, a tuple, the script -/
def dSeq : D → Option (List D)
  | .lst xs => some xs
  | .tup xs => some xs
  | .scr ns => some (ns.map .int)
  | _ => none
def iSq (f : DE) : DI := fun ds c Q => f ds c fun d c' => match dSeq d with
  | some xs => Q xs c'
  | none => False
theorem wk_list {K : PySem.W.Frag} {a : Addr} {xs : List D} : Wk G (Itl K a) xs [(.lst xs, .ref a)] := by
  intro gh hs σ H ds c i S h
  obtain ⟨a', vs, ea, _, h1, t⟩ := h _ (List.mem_singleton.mpr rfl)
  cases ea
  refine ⟨fun hi => ?_, fun hi => ⟨vs, SqL.of h1, by rw [t.len]; exact hi⟩⟩
  have ex : xs[i]? = some xs[i] := List.getElem?_eq_getElem hi
  obtain ⟨v, ev, rv⟩ := t.get ex
  refine ⟨⟨vs, v, SqL.of h1, ev⟩, fun x H' y => ?_⟩
  obtain ⟨rfl, y⟩ := y
  have := y vs (SqL.of h1)
  rw [ev] at this
  cases this
  exact ⟨_, ex, .refl, S.winv, rv⟩
theorem wk_tup {K : PySem.W.Frag} {a : Addr} {xs : List D} : Wk G (Itt K a) xs [(.tup xs, .ref a)] := by
  intro gh hs σ H ds c i S h
  have r : Rep (pE (G.gho gh) ds σ) H (.tup xs) (.ref a) := h _ (List.mem_singleton.mpr rfl)
  rw [rep_tup] at r
  obtain ⟨a', vs, ea, h1, t⟩ := r
  cases ea
  refine ⟨fun hi => ?_, fun hi => ⟨vs, SqT.of h1, by rw [t.len]; exact hi⟩⟩
  have ex : xs[i]? = some xs[i] := List.getElem?_eq_getElem hi
  obtain ⟨v, ev, rv⟩ := t.get ex
  refine ⟨⟨vs, v, SqT.of h1, ev⟩, fun x H' y => ?_⟩
  obtain ⟨rfl, y⟩ := y
  have := y vs (SqT.of h1)
  rw [ev] at this
  cases this
  exact ⟨_, ex, .refl, S.winv, rv⟩
theorem wk_scr {K : PySem.W.Frag} {a : Addr} {ns : List Int} : Wk G (Itl K a) (ns.map .int) [(.scr ns, .ref a)] := by
  intro gh hs σ H ds c i S h
  have r : Rep (pE (G.gho gh) ds σ) H (.scr ns) (.ref a) := h _ (List.mem_singleton.mpr rfl)
  rw [rep_scr] at r
  obtain ⟨a', o, ea, h1⟩ := r
  cases ea
  have sq : SqL K H a (ns.map .int) := .inl (.inr ⟨o, h1⟩)
  rw [List.length_map]
  refine ⟨fun hi => ?_, fun hi => ⟨_, sq, by rw [List.length_map]; exact hi⟩⟩
  have ex : (ns.map V.int)[i]? = some (.int ns[i]) := by simp [hi]
  refine ⟨⟨_, _, sq, ex⟩, fun x H' y => ?_⟩
  obtain ⟨rfl, y⟩ := y
  have := y _ sq
  rw [ex] at this
  cases this
  exact ⟨.int ns[i], by simp [hi], .refl, S.winv, rep_int.mpr rfl⟩
/-- a list or a tuple, by the value -/
def iSqV (K : PySem.W.Frag) (tl : TE) : TI := fun σ H R => tl σ H fun x H1 => ∃ a, x = .ref a ∧ (((∃ xs, SqL K H1 a xs) ∧ R (Itl K a) H1) ∨ ((∃ xs, SqT K H1 a xs) ∧ R (Itt K a) H1))
theorem pi_sq {l : Expr} {tl : TE} (hl : PE X l tl) : PI X tg l (iSqV X.K tl) := by
  refine ⟨fun pins s σ H R I h => ?_⟩
  refine thn (hl.run pins s σ H _ I h) fun v s1 ⟨x, H1, I1, r1, q1⟩ => ?_
  obtain ⟨a, e, q⟩ := q1
  subst e
  cases r1
  rcases q with ⟨⟨xs, hq⟩, q⟩ | ⟨⟨xs, hq⟩, q⟩
  · obtain ⟨its, rv, p, hz⟩ := I1.list hq
    refine wpAny_pyIter_list p.isList ?_
    refine ⟨s1.heap.objs.size, [s1.heap.objs.size], _, _, H1, rfl, I1.kept (t' := s1.toks) fun b o e => Heap.get?_push_of_some _ e, turn_list a _, ⟨_, Heap.get?_push_size _ rfl, rfl, rfl⟩, fun b hb => ?_, q⟩
    have e : b = s1.heap.objs.size := by simpa using hb
    subst e
    exact I1.fpOk (Nat.le_refl _) (I1.hok.fresh (Nat.le_refl _))
  · obtain ⟨its, rv, p, hz⟩ := I1.tuple hq
    refine wpAny_pyIter_tuple (show s1.heap.IsTuple a its.toArray from p) ?_
    refine ⟨s1.heap.objs.size, [s1.heap.objs.size], _, _, H1, rfl, I1.kept (t' := s1.toks) fun b o e => Heap.get?_push_of_some _ e, turn_tuple a _, ⟨_, Heap.get?_push_size _ rfl, rfl, rfl⟩, fun b hb => ?_, q⟩
    have e : b = s1.heap.objs.size := by simpa using hb
    subst e
    exact I1.fpOk (Nat.le_refl _) (I1.hok.fresh (Nat.le_refl _))
theorem vi_seq (he : VE m X G e f) : VI m X G tg e (iSq f) := by
  obtain ⟨t, pt, it⟩ := he.ex
  refine ⟨_, pi_sq pt, fun hs σ H ds c Qd R S q k => it hs σ H ds c _ _ S q fun v H' d c' S' s' r q' => ?_⟩
  have one : ∀ {d : D}, RepM m G ds σ H H' d v → ∀ q ∈ [(d, v)], RepM m G ds σ H H' q.1 q.2 := fun h q hq => by
    rw [List.mem_singleton] at hq; subst hq; exact h
  cases d with
  | lst xs =>
    have r2 := r
    obtain ⟨a, vs, rfl, _, h1, tl⟩ := r2
    exact ⟨a, rfl, .inl ⟨⟨_, SqL.of h1⟩, k _ H' xs c' _ S' s' (one r) wk_list q'⟩⟩
  | tup xs =>
    have r2 := r
    have r2 := repB r2
    rw [rep_tup] at r2
    obtain ⟨a, vs, rfl, h1, tl⟩ := r2
    exact ⟨a, rfl, .inr ⟨⟨_, SqT.of h1⟩, k _ H' xs c' _ S' s' (one r) wk_tup q'⟩⟩
  | scr ns =>
    have r2 := r
    have r2 := repB r2
    rw [rep_scr] at r2
    obtain ⟨a, o, rfl, h1⟩ := r2
    exact ⟨a, rfl, .inl ⟨⟨_, .inl (.inr ⟨o, h1⟩)⟩, k _ H' _ c' _ S' s' (one r) wk_scr q'⟩⟩
  | _ => exact q'.elim
/-- ints from lo on, by c -/
def ups (lo c : Int) (n : Nat) : List D := (List.range n).map fun i => .int (lo + (i : Nat) * c)
theorem ups_len {lo c : Int} {n : Nat} : (ups lo c n).length = n := by simp [ups]
theorem ups_get {lo c : Int} {n i : Nat} (h : i < n) : (ups lo c n)[i]? = some (.int (lo + (i : Nat) * c)) := by simp [ups, h]
theorem wk_rng {lo : Int} {n : Nat} : Wk G (Itr lo n) (ups lo 1 n) [] := by
  intro gh hs σ H ds c i S _
  rw [ups_len]
  refine ⟨fun hi => ⟨hi, fun x H' y => ?_⟩, fun hi => hi⟩
  obtain ⟨rfl, rfl⟩ := y
  exact ⟨_, ups_get hi, .refl, S.winv, rep_int.mpr (by rw [Int.mul_one])⟩
theorem wk_rngC {lo k : Int} {n : Nat} : Wk G (Itc lo k n) (ups lo k n) [] := by
  intro gh hs σ H ds c i S _
  rw [ups_len]
  refine ⟨fun hi => ⟨hi, fun x H' y => ?_⟩, fun hi => hi⟩
  obtain ⟨rfl, rfl⟩ := y
  exact ⟨_, ups_get hi, .refl, S.winv, rep_int.mpr rfl⟩
def fit (i : Int) : Prop := -(2 ^ 62) ≤ i ∧ i < 2 ^ 62
def iR1 (g : DA) : DI := fun ds c Q => g ds c fun xs c' => match xs with
  | [.int j] => fit j ∧ Q (ups 0 1 j.toNat) c'
  | _ => False
def iR2 (g : DA) : DI := fun ds c Q => g ds c fun xs c' => match xs with
  | [.int i, .int j] => (fit i ∧ fit j) ∧ Q (ups i 1 (j - i).toNat) c'
  | _ => False
def iR3 (g : DA) : DI := fun ds c Q => g ds c fun xs c' => match xs with
  | [.int i, .int j, .int k] => ∃ n, RgC i j k n ∧ Q (ups i k n) c'
  | _ => False
theorem nil_held {ds : DSt} {σ : St} {H H' : Hp} : ∀ q ∈ ([] : List (D × V)), RepM m G ds σ H H' q.1 q.2 := fun _ h => nomatch h
theorem vi_r1 {a : Expr} (hg : Gl X "range") (hm : X.mg "range" = none) (ha : VA .B X G [a] fa) (hs : starEach [a] X.env = [(false, eval a X.env)] := by rfl) : VI m X G tg (.Call (.Name "range" p) [a] [] pos) (iR1 fa) := by
  obtain ⟨t, pt, it⟩ := ha.ex
  refine ⟨_, pi_range1 hg hm pt hs, fun hs σ H ds c Qd R S q k => it hs σ H ds c _ _ S q fun vs H' xs c' S' s' r q' => ?_⟩
  split at q'
  · rename_i j
    obtain ⟨v, vr, rfl, r1, r2⟩ := r.uncons
    rw [r2.unnil]
    rw [rep_int] at r1
    exact ⟨j, by rw [r1], q'.1.1, q'.1.2, k _ H' _ c' [] S' s' nil_held wk_rng q'.2⟩
  · exact q'.elim
theorem vi_r2 {a b : Expr} (hg : Gl X "range") (hm : X.mg "range" = none) (ha : VA .B X G [a, b] fa) (hs : starEach [a, b] X.env = [(false, eval a X.env), (false, eval b X.env)] := by rfl) (hs2 : starEach [b] X.env = [(false, eval b X.env)] := by rfl) : VI m X G tg (.Call (.Name "range" p) [a, b] [] pos) (iR2 fa) := by
  obtain ⟨t, pt, it⟩ := ha.ex
  refine ⟨_, pi_range2 hg hm pt hs hs2, fun hs σ H ds c Qd R S q k => it hs σ H ds c _ _ S q fun vs H' xs c' S' s' r q' => ?_⟩
  split at q'
  · rename_i i j
    obtain ⟨v, vr, rfl, r1, r2⟩ := r.uncons
    obtain ⟨v2, vr2, rfl, r3, r4⟩ := r2.uncons
    rw [r4.unnil]
    rw [rep_int] at r1 r3
    exact ⟨i, j, by rw [r1, r3], ⟨q'.1.1.1, q'.1.1.2, q'.1.2.1, q'.1.2.2⟩, k _ H' _ c' [] S' s' nil_held wk_rng q'.2⟩
  · exact q'.elim
theorem vi_r3 {a b d : Expr} (hg : Gl X "range") (hm : X.mg "range" = none) (ha : VA .B X G [a, b, d] fa) (hs : starEach [a, b, d] X.env = (false, eval a X.env) :: starEach [b, d] X.env := by rfl) (hpl : (backTo pos (starEach [b, d] X.env)).any (·.1) = false := by rfl) : VI m X G tg (.Call (.Name "range" p) [a, b, d] [] pos) (iR3 fa) := by
  obtain ⟨t, pt, it⟩ := ha.ex
  refine ⟨_, pi_range3 hg hm pt hs hpl, fun hs σ H ds c Qd R S q k => it hs σ H ds c _ _ S q fun vs H' xs c' S' s' r q' => ?_⟩
  split at q'
  · rename_i i j z
    obtain ⟨n, hn, q'⟩ := q'
    obtain ⟨v, vr, rfl, r1, r2⟩ := r.uncons
    obtain ⟨v2, vr2, rfl, r3, r4⟩ := r2.uncons
    obtain ⟨v3, vr3, rfl, r5, r6⟩ := r4.uncons
    rw [r6.unnil]
    rw [rep_int] at r1 r3 r5
    exact ⟨i, j, z, n, by rw [r1, r3, r5], hn, k _ H' _ c' [] S' s' nil_held wk_rngC q'⟩
  · exact q'.elim
/-- a text, sign by sign -/
def iSt (f : DE) : DI := fun ds c Q => f ds c fun d c' => match d with
  | .str z => Q (z.cps.toList.map fun c => .str ⟨#[c]⟩) c'
  | _ => False
theorem wk_str {z : Str} : Wk G (Its z) (z.cps.toList.map fun c => .str ⟨#[c]⟩) [] := by
  intro gh hs σ H ds c i S _
  rw [List.length_map, Array.length_toList]
  refine ⟨fun hi => ⟨hi, fun x H' y => ?_⟩, fun hi => hi⟩
  obtain ⟨rfl, k, ek, rfl⟩ := y
  exact ⟨.str ⟨#[k]⟩, by simp [ek], .refl, S.winv, rep_str.mpr rfl⟩
theorem vi_str (he : VE .B X G e f) : VI m X G tg e (iSt f) := by
  obtain ⟨t, pt, it⟩ := he.ex
  refine ⟨_, pi_str pt, fun hs σ H ds c Qd R S q k => it hs σ H ds c _ _ S q fun v H' d c' S' s' r q' => ?_⟩
  cases d with
  | str z =>
    have r := repB r
    rw [rep_str] at r
    exact ⟨z, r, k _ H' _ c' [] S' s' nil_held wk_str q'⟩
  | _ => exact q'.elim
/-- reversed of a list -/
theorem wk_rev {K : PySem.W.Frag} {a : Addr} {xs : List D} : Wk G (Itv K a xs.length) xs.reverse [(.lst xs, .ref a)] := by
  intro gh hs σ H ds c i S h
  obtain ⟨a', vs, ea, _, h1, t⟩ := h _ (List.mem_singleton.mpr rfl)
  cases ea
  rw [List.length_reverse]
  refine ⟨fun hi => ?_, fun hi => hi⟩
  have ex : xs.reverse[i]? = some (xs[xs.length - 1 - i]'(by omega)) := by
    rw [List.getElem?_reverse hi, List.getElem?_eq_getElem]
  have ex2 : xs[xs.length - 1 - i]? = some (xs[xs.length - 1 - i]'(by omega)) := List.getElem?_eq_getElem (by omega)
  obtain ⟨v, ev, rv⟩ := t.get ex2
  refine ⟨⟨hi, vs, v, SqL.of h1, ev⟩, fun x H' y => ?_⟩
  obtain ⟨rfl, y⟩ := y
  have := y vs (SqL.of h1)
  rw [ev] at this
  cases this
  exact ⟨_, ex, .refl, S.winv, rv⟩
def iRv (g : DE) : DI := fun ds c Q => g ds c fun d c' => match d with
  | .lst xs => Q xs.reverse c'
  | _ => False
theorem vi_rev (hg : Gl X "reversed") (hm : X.mg "reversed" = none) (he : VE m X G e f) (hs : starEach [e] X.env = [(false, eval e X.env)] := by rfl) : VI m X G tg (.Call (.Name "reversed" p) [e] [] pos) (iRv f) := by
  obtain ⟨t, pt, it⟩ := he.ex
  refine ⟨_, pi_reversed hg hm (pa_cons pt pa_nil (by rw [hs] <;> rfl)) hs, fun hs σ H ds c Qd R S q k => it hs σ H ds c _ _ S q fun v H' d c' S' s' r q' => ?_⟩
  cases d with
  | lst xs =>
    have r2 := r
    obtain ⟨a, vs, rfl, _, h1, tl⟩ := r2
    refine ⟨a, vs, rfl, SqL.of h1, ?_⟩
    rw [tl.len]
    exact k _ H' _ c' [(.lst xs, .ref a)] S' s' (fun q hq => by rw [List.mem_singleton] at hq; subst hq; exact r) wk_rev q'
  | _ => exact q'.elim
/-- enumerate of a list -/
def enumD : Nat → List D → List D
  | _, [] => []
  | n, x :: xs => .tup [.int n, x] :: enumD (n + 1) xs
theorem enumD_len : ∀ (n : Nat) (xs : List D), (enumD n xs).length = xs.length
  | _, [] => rfl
  | n, x :: xs => by simp [enumD, enumD_len]
theorem enumD_get : ∀ (n : Nat) (xs : List D) (i : Nat) (x : D), xs[i]? = some x → (enumD n xs)[i]? = some (.tup [.int ((n + i : Nat) : Int), x])
  | _, [], i, x, h => by simp at h
  | n, y :: ys, 0, x, h => by simp at h; subst h; simp [enumD]
  | n, y :: ys, i + 1, x, h => by
    simp only [enumD, List.getElem?_cons_succ] at h ⊢
    rw [enumD_get (n + 1) ys i x h]
    congr 5
    omega
theorem wk_enum {K : PySem.W.Frag} {a : Addr} {xs : List D} : Wk G (Ite K a) (enumD 0 xs) [(.lst xs, .ref a)] := by
  intro gh hs σ H ds c i S h
  obtain ⟨a', vs, ea, _, h1, t⟩ := h _ (List.mem_singleton.mpr rfl)
  cases ea
  rw [enumD_len]
  refine ⟨fun hi => ?_, fun hi => ⟨vs, SqL.of h1, by rw [t.len]; exact hi⟩⟩
  have ex : xs[i]? = some xs[i] := List.getElem?_eq_getElem hi
  obtain ⟨v, ev, rv⟩ := t.get ex
  refine ⟨⟨vs, v, SqL.of h1, ev⟩, fun x H' y => ?_⟩
  obtain ⟨T, y, rfl, hT, rfl, hy⟩ := y
  have := hy vs (SqL.of h1)
  rw [ev] at this
  cases this
  refine ⟨_, enumD_get 0 xs i _ ex, .new hT, S.winv.new hT, ?_⟩
  refine rep_tup.mpr ⟨T, _, rfl, upd_same, .cons (rep_int.mpr (by simp)) (.one (Rep.keep (Lg := G.Lg) (.new hT) (fun a (z : pE (G.gho gh) ds σ a) => z.1) _ _ rv))⟩
def iEn (g : DE) : DI := fun ds c Q => g ds c fun d c' => match d with
  | .lst xs => Q (enumD 0 xs) c'
  | _ => False
variable {elts : List Expr} {kk : Nat} {tpos : Pos}
theorem vi_enum (hg : Gl X "enumerate") (hm : X.mg "enumerate" = none) (he : VE m X G e f) (hs : starEach [e] X.env = [(false, eval e X.env)] := by rfl) : VI m X G (.Tuple elts kk tpos) (.Call (.Name "enumerate" p) [e] [] pos) (iEn f) := by
  obtain ⟨t, pt, it⟩ := he.ex
  refine ⟨_, pi_enum hg hm (pa_cons pt pa_nil (by rw [hs] <;> rfl)) hs, fun hs σ H ds c Qd R S q k => it hs σ H ds c _ _ S q fun v H' d c' S' s' r q' => ?_⟩
  cases d with
  | lst xs =>
    have r2 := r
    obtain ⟨a, vs, rfl, _, h1, tl⟩ := r2
    refine ⟨a, vs, rfl, SqL.of h1, ?_⟩
    exact k _ H' _ c' [(.lst xs, .ref a)] S' s' (fun q hq => by rw [List.mem_singleton] at hq; subst hq; exact r) wk_enum q'
  | _ => exact q'.elim
/-- zip of two lists -/
def zipD (xs ys : List D) : List D := List.zipWith (fun x y => .tup [x, y]) xs ys
theorem wk_zip {K : PySem.W.Frag} {a b : Addr} {xs ys : List D} : Wk G (Itz K a b) (zipD xs ys) [(.lst xs, .ref a), (.lst ys, .ref b)] := by
  intro gh hs σ H ds c i S h
  obtain ⟨a', vs, ea, _, h1, t1⟩ := h (.lst xs, .ref a) (by simp)
  cases ea
  obtain ⟨b', us, eb, _, h2, t2⟩ := h (.lst ys, .ref b) (by simp)
  cases eb
  have hl : (zipD xs ys).length = min xs.length ys.length := by simp [zipD]
  rw [hl]
  refine ⟨fun hi => ?_, fun hi => ⟨vs, us, SqL.of h1, SqL.of h2, by rw [t1.len, t2.len]; omega⟩⟩
  have ex : xs[i]? = some (xs[i]'(by omega)) := List.getElem?_eq_getElem (by omega)
  have ey : ys[i]? = some (ys[i]'(by omega)) := List.getElem?_eq_getElem (by omega)
  obtain ⟨v, ev, rv⟩ := t1.get ex
  obtain ⟨u, eu, ru⟩ := t2.get ey
  refine ⟨⟨vs, us, v, u, SqL.of h1, SqL.of h2, ev, eu⟩, fun x H' y => ?_⟩
  obtain ⟨T, x1, y1, rfl, hT, rfl, hx, hy⟩ := y
  have e1 := hx vs (SqL.of h1)
  have e2 := hy us (SqL.of h2)
  rw [ev] at e1
  rw [eu] at e2
  cases e1
  cases e2
  refine ⟨.tup [xs[i]'(by omega), ys[i]'(by omega)], by unfold zipD; rw [List.getElem?_zipWith, ex, ey], .new hT, S.winv.new hT, ?_⟩
  exact rep_tup.mpr ⟨T, _, rfl, upd_same, .cons (Rep.keep (Lg := G.Lg) (.new hT) (fun a (z : pE (G.gho gh) ds σ a) => z.1) _ _ rv) (.one (Rep.keep (Lg := G.Lg) (.new hT) (fun a (z : pE (G.gho gh) ds σ a) => z.1) _ _ ru))⟩
def iZp (f g : DE) : DI := fun ds c Q => f ds c fun x c1 => g ds c1 fun y c2 => match x, y with
  | .lst xs, .lst ys => Q (zipD xs ys) c2
  | _, _ => False
theorem vi_zip (hg : Gl X "zip") (hm : X.mg "zip" = none) (he : VE m X G e f) (he2 : VE m X G e2 g) (hs : starEach [e, e2] X.env = [(false, eval e X.env), (false, eval e2 X.env)] := by rfl) (hs2 : starEach [e2] X.env = [(false, eval e2 X.env)] := by rfl) :
    VI m X G (.Tuple elts kk tpos) (.Call (.Name "zip" p) [e, e2] [] pos) (iZp f g) := by
  obtain ⟨t, pt, it⟩ := he.ex
  obtain ⟨u, pu, iu⟩ := he2.ex
  refine ⟨_, pi_zip hg hm (pa_cons pt (pa_cons pu pa_nil (by rw [hs2] <;> rfl)) (by rw [hs, hs2])) (by rw [hs, hs2]) (by rw [hs2] <;> rfl), fun hs σ H ds c Qd R S q k => it hs σ H ds c _ _ S q fun v H1 d1 c1 S1 s1 r1 q1 => iu hs σ H1 ds c1 _ _ S1 q1 fun w H2 d2 c2 S2 s2 r2 q2 => ?_⟩
  split at q2
  · rename_i xs ys
    have ra : RepM m G ds σ H H2 (.lst xs) v := RepM.keep s2 r1
    have rb : RepM m G ds σ H H2 (.lst ys) w := RepM.back s1 r2
    have ra2 := ra
    have rb2 := rb
    obtain ⟨a, vs, rfl, _, h1, t1⟩ := ra2
    obtain ⟨b, us, rfl, _, h2, t2⟩ := rb2
    refine ⟨a, b, vs, us, rfl, SqL.of h1, SqL.of h2, ?_⟩
    refine k _ H2 _ c2 [(.lst xs, .ref a), (.lst ys, .ref b)] S2 (s1.trans s2) (fun q hq => ?_) wk_zip q2
    simp only [List.mem_cons, List.not_mem_nil, or_false] at hq
    rcases hq with rfl | rfl
    · exact ra
    · exact rb
  · exact q2.elim
end

/-! ### for -/
/-- the loop over these data -/
def forL (tg : DG) (body : DS) (K : DK) : List D → DSt → Nat → Prop
  | [], ds, c => K.nx ds c
  | x :: r, ds, c => tg x ds fun ds' => body { K with nx := forL tg body K r, ct := forL tg body K r, bk := K.nx } ds' c
def sFor (fi : DI) (tg : DG) (body : DS) : DS := fun K ds c => fi ds c fun xs c' => forL tg body K xs ds c'
section
variable {X : Cx} {G : Gc} {tg iter : Expr} {body : List Stmt} {fi : DI} {tf : DG} {bf : DS} {pos : Pos}
theorem RepM.toE {ds : DSt} {σ : St} {H H' : Hp} {d : D} {v : V} (r : RepM .E G ds σ H H' d v) : Rep (pE G ds σ) H' d v := rep2_self.mp r
theorem vs_for (hp : PassesOwn (model X.prog X.w) X.A X.env X.xe) (hc : X.calm = true) (hi : VI .E X G tg iter fi) (hg : VG X G tg tf) (hb : VSs X G body bf)
    (hs : ∀ x, foldedSetIterable iter X.env x = pure x := by intro _; rfl) : VS X G (.For tg iter body [] pos) (sFor fi tf bf) := by
  obtain ⟨wi, pi, ii⟩ := hi.ex
  obtain ⟨gt, pg, ig⟩ := hg.ex
  obtain ⟨bt, pb, ib⟩ := hb.ex
  refine ⟨_, ps_for hp hc pi pg pb hs, fun hs σ H ds c K E S q k => ii hs σ H ds c _ _ S q fun J H1 xs c1 hd S1 s1 rh wk q1 => ?_⟩
  refine ⟨fun i m σ H => m = xs.length - i ∧ i ≤ xs.length ∧ ∃ ds c, StR G (hd ++ hs) σ H ds c ∧ forL tf bf K (xs.drop i) ds c, ⟨xs.length, by simp, Nat.zero_le _, ds, c1, S1.hold fun q hq => (rh q hq).toE, q1⟩, ?_⟩
  rintro i m σ2 H2 ⟨rfl, hi, ds2, c2, S2, q2⟩
  have hh : ∀ q ∈ hd, Rep2 (pB G) (pE G ds2 σ2) H2 q.1 q.2 := fun q hq => Rep2.imp (fun a p _ => p.1) (fun a p _ => p) (rep2_self.mpr (S2.held q (List.mem_append_left _ (List.mem_append_left _ hq))))
  obtain ⟨w1, w2⟩ := wk G.gh (hd ++ hs) σ2 H2 ds2 c2 i S2 hh
  by_cases hlt : i < xs.length
  · obtain ⟨hgo, hy⟩ := w1 hlt
    refine .inr ⟨hgo, fun σ' H' => ∃ ds c, StR G (hd ++ hs) σ' H' ds c ∧ forL tf bf K (xs.drop (i + 1)) ds c, fun σ' H' p' => ⟨xs.length - (i + 1), by omega, rfl, hlt, p'⟩, fun x H' y => ?_⟩
    obtain ⟨d, ed, sw, wi', rx⟩ := hy x H' y
    have S3 := S2.grow sw wi'
    have edr : xs.drop i = d :: xs.drop (i + 1) := by
      rw [List.drop_eq_getElem_cons hlt]
      congr
      have := List.getElem?_eq_getElem hlt
      rw [ed] at this
      exact (Option.some.inj this).symm
    rw [edr] at q2
    refine ig (hd ++ hs) σ2 H' ds2 c2 x d _ _ S3 rx q2 fun σ' ds' S4 q4 => ?_
    refine ib (hd ++ hs) σ' H' ds' c2 _ _ S4 q4 ⟨fun σ5 H5 ds5 c5 S5 q5 => ⟨ds5, c5, S5, q5⟩, fun σ5 H5 ds5 c5 v5 d5 S5 r5 q5 => k.rt σ5 H5 ds5 c5 v5 d5 S5.unheld r5 q5, fun σ5 H5 ds5 c5 S5 q5 => k.nx σ5 H5 ds5 c5 S5.unheld q5, fun σ5 H5 ds5 c5 S5 q5 => ⟨ds5, c5, S5, q5⟩⟩
  · have e : i = xs.length := by omega
    subst e
    rw [List.drop_length] at q2
    exact .inl ⟨w2 (Nat.le_refl _), k.nx σ2 H2 ds2 c2 S2.unheld q2⟩
/-! ### while -/
def sWh (p : DT) (body : DS) : DS := fun K ds c => ∃ W : Nat → DSt → Nat → Prop, (∃ m, W m ds c) ∧ ∀ m ds c, W m ds c →
  p ds c fun b c1 => if b = true then body { K with nx := fun ds' c' => ∃ m', m' < m ∧ W m' ds' c', ct := fun ds' c' => ∃ m', m' < m ∧ W m' ds' c', bk := K.nx } ds c1 else K.nx ds c1
theorem vs_while {e : Expr} {p : DT} (hp : PassesOwn (model X.prog X.w) X.A X.env X.xe) (hc : VT X G e p) (hb : VSs X G body bf) : VS X G (.While e body [] pos) (sWh p bf) := by
  obtain ⟨ct, pc, ic⟩ := hc.ex
  obtain ⟨bt, pb, ib⟩ := hb.ex
  refine ⟨_, ps_while hp pc pb, fun hs σ H ds c K E S q k => ?_⟩
  obtain ⟨W, ⟨m0, w0⟩, turn⟩ := q
  refine ⟨fun m σ H => ∃ ds c, StR G hs σ H ds c ∧ W m ds c, ⟨m0, ds, c, S, w0⟩, ?_⟩
  rintro m σ2 H2 ⟨ds2, c2, S2, w2⟩
  refine ic hs σ2 H2 ds2 c2 _ _ S2 (turn m ds2 c2 w2) fun b H3 c3 S3 s3 q3 => ?_
  cases b with
  | true =>
    rw [if_pos rfl] at q3 ⊢
    refine ⟨fun σ' H' => ∃ m', m' < m ∧ ∃ ds c, StR G hs σ' H' ds c ∧ W m' ds c, fun σ' H' h => h, ?_⟩
    exact ib hs σ2 H3 ds2 c3 _ _ S3 q3 ⟨fun σ5 H5 ds5 c5 S5 ⟨m', hm, w⟩ => ⟨m', hm, ds5, c5, S5, w⟩, k.rt, k.nx, fun σ5 H5 ds5 c5 S5 ⟨m', hm, w⟩ => ⟨m', hm, ds5, c5, S5, w⟩⟩
  | false =>
    rw [if_neg Bool.false_ne_true] at q3 ⊢
    exact k.nx σ2 H3 ds2 c3 S3 q3
end

/-! ### comprehensions -/
/-- the slots of the block's own names forgotten -/
def wipeD (ds : DSt) : List Nat → DSt
  | [] => ds
  | v :: vs => (wipeD ds vs).set v .un
theorem StR.wipe {G : Gc} {hs : List (D × V)} {σ : St} {H : Hp} {ds : DSt} {c : Nat} (S : StR G hs σ H ds c) : ∀ vs : List Nat, StR G hs (L2.wipe σ vs) H (wipeD ds vs) c
  | [] => S
  | v :: vs => by
    unfold L2.wipe wipeD
    exact (StR.wipe S vs).setUn
/-- a list grows item by item -/
def lcL (tg : DG) (cond : DT) (elt : DE) (ds0 : DSt) (Q : D → Nat → Prop) : List D → List D → Nat → Prop
  | [], acc, c => Q (.lst acc) c
  | x :: r, acc, c => tg x ds0 fun ds' => cond ds' c fun b c1 => if b = true then elt ds' c1 fun d c2 => acc.length < sizeLine ∧ lcL tg cond elt ds0 Q r (acc ++ [d]) c2 else lcL tg cond elt ds0 Q r acc c1
/-- none of these slots is an own one -/
def noOw (ds : DSt) (vs : List Nat) : Bool := vs.all fun i => match ds[i]? with
  | some (.ow _) => false
  | _ => true
def eLc (fi : DI) (tg : DG) (cond : DT) (elt : DE) (vs : List Nat) : DE := fun ds c Q => fi ds c fun xs c' => noOw ds vs = true ∧ lcL tg cond elt (wipeD ds vs) Q xs [] c'
structure VTs (X : Cx) (G : Gc) (ifs : List Expr) (f : DT) : Prop where
  ex : ∃ t, PTs X ifs t ∧ ∀ hs σ H ds c Qd Q, StR G hs σ H ds c → f ds c Qd → (∀ b H' c', StR G hs σ H' ds c' → SameW G.Lg H H' → Qd b c' → Q b H') → t σ H Q
def tYes_ : DT := fun _ c Q => Q true c
section
variable {X : Cx} {G : Gc}
theorem vts_nil : VTs X G [] tYes_ := ⟨_, pts_nil, fun hs σ H ds c Qd Q S q k => k true H c S .refl q⟩
theorem vts_one {e : Expr} {p : DT} (h : VT X G e p) : VTs X G [e] p := by
  obtain ⟨t, pt, it⟩ := h.ex
  exact ⟨_, pts_one pt, it⟩
/-- the block's context by data: nothing is raised in it -/
abbrev Gc.blk (G : Gc) (gh : Addr → Prop) : Gc := { G with gh := gh, ep := fun _ _ _ => False, W := fun _ _ _ _ => False }
theorem gok_blk {X : Cx} {G : Gc} {gh : Addr → Prop} : GOk X (G.blk gh) := ⟨(fun _ _ ⟨_, _, _, _, _, _, _, _, _, _, _, _, _, _, _, _, z⟩ => z.elim), fun _ _ _ _ _ _ _ z => z.elim⟩
variable {hs : List (D × V)} {σ : St} {H : Hp} {ds : DSt} {c : Nat}
theorem StR.toBlk {gh : Addr → Prop} (S : StR (G.gho gh) hs σ H ds c) : StR (G.blk gh) hs σ H ds c := ⟨S.same, S.winv, S.len, S.sh, S.ow, S.apart, S.held, S.ghd⟩
theorem StR.ofBlk {gh : Addr → Prop} (S : StR (G.blk gh) hs σ H ds c) : StR (G.gho gh) hs σ H ds c := ⟨S.same, S.winv, S.len, S.sh, S.ow, S.apart, S.held, S.ghd⟩
/-- a new object is from now on one in the making -/
theorem pE_ghost {D : Addr} (a : Addr) (h : pE G ds σ a) (n : a ≠ D) : pE (G.gho fun b => G.gh b ∨ b = D) ds σ a := ⟨h.1, fun m => by
  rcases m with (g | g) | o
  · exact h.2.1 (.inl g)
  · exact n g
  · exact h.2.1 (.inr o), h.2.2⟩
theorem pE_unghost {D : Addr} (a : Addr) (h : pE (G.gho fun b => G.gh b ∨ b = D) ds σ a) : pE G ds σ a := ⟨h.1, fun m => by
  rcases m with g | o
  · exact h.2.1 (.inl (.inl g))
  · exact h.2.1 (.inr o), h.2.2⟩
theorem StR.ghost {D : Addr} {o : HO} (S : StR G hs σ H ds c) (h : H D = none) : StR (G.gho fun b => G.gh b ∨ b = D) hs σ (upd H D o) ds c := by
  have sw : SameW G.Lg H (upd H D o) := .new h
  have wk : ∀ a, pE G ds σ a → H a ≠ none → pE (G.gho fun b => G.gh b ∨ b = D) ds σ a := fun a p n => pE_ghost a p fun z => n (z ▸ h)
  refine ⟨S.same.trans sw, S.winv.new h, S.len, fun i d e => ?_, fun i d e => ?_, S.apart, fun q hq => Rep.keep sw (fun a z => z.1) _ _ (Rep.weak wk _ _ (S.held q hq)), fun a g => ?_⟩
  · obtain ⟨v, e1, r⟩ := S.sh i d e
    exact ⟨v, e1, Rep.keep sw (fun a z => z.1) _ _ (Rep.weak wk _ _ r)⟩
  · obtain ⟨p, e1, h0, hl, o1⟩ := S.ow i d e
    refine ⟨p, e1, h0, ⟨hl.1, fun z => z.elim hl.2 fun z => ?_⟩, (o1.imp wk).keep sw hl.1 (fun a z => z.1)⟩
    obtain ⟨u, hu, _⟩ := o1.dom
    rw [z, h] at hu
    cases hu
  · rcases g with g | g
    · intro z
      exact S.ghd a g (sw.dom a z)
    · rw [g, upd_same]; simp
theorem StR.unghost {D : Addr} (S : StR (G.gho fun b => G.gh b ∨ b = D) hs σ H ds c) : StR G hs σ H ds c := by
  have wk : ∀ a, pE (G.gho fun b => G.gh b ∨ b = D) ds σ a → H a ≠ none → pE G ds σ a := fun a p _ => pE_unghost a p
  exact ⟨S.same, S.winv, S.len, fun i d e => let ⟨v, e1, r⟩ := S.sh i d e; ⟨v, e1, Rep.weak wk _ _ r⟩, fun i d e => let ⟨p, e1, h0, hl, o1⟩ := S.ow i d e; ⟨p, e1, h0, ⟨hl.1, fun z => hl.2 (.inl z)⟩, o1.imp wk⟩, S.apart, fun q hq => Rep.weak wk _ _ (S.held q hq), fun a g => S.ghd a (.inl g)⟩
/-- the list in the making is written -/
theorem StR.ghWrite {D : Addr} {vs us : List V} (S : StR G hs σ H ds c) (hg : G.gh D) (h : H D = some (.lst vs)) (h0 : G.H0 D = none) (hl : G.Lg D = none) : StR G hs σ (upd H D (.lst us)) ds c := by
  have sw : ∀ b, b ≠ D → upd H D (.lst us) b = H b := fun b hb => upd_ne hb
  have hm : Mut (H D) := by rw [h]; exact trivial
  have np : ¬ pE G ds σ D := fun z => z.2.1 (.inl hg)
  refine ⟨⟨fun b u e n1 n2 => ?_, fun b e => ?_⟩, S.winv.write h (.inl ⟨_, rfl⟩) hl, S.len, fun i d e => ?_, fun i d e => ?_, S.apart, fun q hq => Rep.write sw hm np _ _ (S.held q hq), fun a g => ?_⟩
  · have hb : b ≠ D := fun z => by rw [z, h0] at e; cases e
    rw [sw b hb]; exact S.same.keep b u e n1 n2
  · by_cases hb : b = D
    · rw [hb]; exact h0
    · rw [sw b hb] at e; exact S.same.dom b e
  · obtain ⟨v, e1, r⟩ := S.sh i d e
    exact ⟨v, e1, Rep.write sw hm np _ _ r⟩
  · obtain ⟨p, e1, h0, hl, o1⟩ := S.ow i d e
    exact ⟨p, e1, h0, hl, o1.write sw hm np fun z => hl.2 (by rw [z]; exact hg)⟩
  · by_cases hb : a = D
    · rw [hb, upd_same]; simp
    · rw [sw a hb]; exact S.ghd a g
theorem wipe_set_mem {σ : St} {x : Option V} {i : Nat} : ∀ {vs : List Nat}, i ∈ vs → L2.wipe (σ.set i x) vs = L2.wipe σ vs
  | [], h => nomatch h
  | v :: vs, h => by
    unfold L2.wipe
    by_cases hv : i ∈ vs
    · rw [wipe_set_mem hv]
    · have e : i = v := by rcases List.mem_cons.mp h with e | e; exact e; exact absurd e hv
      subst e
      have : ∀ (vs : List Nat) (τ : St), i ∉ vs → L2.wipe (τ.set i x) vs = (L2.wipe τ vs).set i x := by
        intro vs
        induction vs with
        | nil => intro τ _; rfl
        | cons w ws ih =>
          intro τ hn
          simp only [List.mem_cons, not_or] at hn
          unfold L2.wipe
          rw [ih τ hn.2, List.set_comm _ _ hn.1]
      rw [this vs σ hv, List.set_set]
end
section
variable {X : Cx} {G : Gc} {elt tg iter : Expr} {ifs : List Expr} {scope : Scope} {own : List (Str × Nat)} {pos : Pos} {fi : DI} {tf : DG} {cf : DT} {ef : DE}
/-- a block's readings, for every ghost -/
def teW (G : Gc) (ef : DE) : TE := fun σ H Q => ∃ gh hs ds c Qd, StR (G.blk gh) hs σ H ds c ∧ ef ds c Qd ∧ ∀ v H' d c', StR (G.blk gh) hs σ H' ds c' → SameW G.Lg H H' → RepM .E (G.blk gh) ds σ H H' d v → Qd d c' → Q v H'
def ttW (G : Gc) (cf : DT) : TT := fun σ H Q => ∃ gh hs ds c Qd, StR (G.blk gh) hs σ H ds c ∧ cf ds c Qd ∧ ∀ b H' c', StR (G.blk gh) hs σ H' ds c' → SameW G.Lg H H' → Qd b c' → Q b H'
theorem teW_pe {X : Cx} {e : Expr} (h : ∀ gh, VE .E X (G.blk gh) e ef) : PE X e (teW G ef) := by
  refine ⟨fun pins s σ H Q I q => ?_⟩
  obtain ⟨gh, hs, ds, c, Qd, S, q, k⟩ := q
  obtain ⟨t, pt, it⟩ := (h gh).ex
  exact pt.run pins s σ H Q I (it hs σ H ds c Qd Q S q k)
theorem ttW_pt {X : Cx} {ifs : List Expr} (h : ∀ gh, VTs X (G.blk gh) ifs cf) : PTs X ifs (ttW G cf) := by
  refine ⟨fun pins s σ H Q I q => ?_⟩
  obtain ⟨gh, hs, ds, c, Qd, S, q, k⟩ := q
  obtain ⟨t, pt, it⟩ := (h gh).ex
  exact pt.run pins s σ H Q I (it hs σ H ds c Qd Q S q k)
/-- a block's target: it stores to the block's own slots -/
structure LcTg (X : Cx) (G : Gc) (scope : Scope) (tg : Expr) (vs : List Nat) (g : TG) (tf : DG) : Prop where
  pg : ∀ (s : Shared) (H : Hp) (C : Addr) (cl : List (Str × Addr)) (fp : List Addr), PG (X.blk s H scope (compEnvC scope cl C X.env) fp) tg g
  og : ∀ v σ H Q, g v σ H Q → g v σ H fun σ' H' => L2.wipe σ' vs = L2.wipe σ vs ∧ Q σ' H'
  ig : ∀ gh hs σ H ds c v d Qd Q, StR (G.blk gh) hs σ H ds c → (∀ (i : Nat), i ∈ vs → ∀ d, ds[i]? ≠ some (.ow d)) → Rep (pE (G.blk gh) ds σ) H d v → tf d ds Qd →
    (∀ σ' ds', StR (G.blk gh) hs σ' H ds' c → (∀ a, Mo (G.blk gh) ds σ a → Mo (G.blk gh) ds' σ' a) → Qd ds' → Q σ' H) → g v σ H Q
theorem mo_setSh {ds : DSt} {σ : St} {i : Nat} {d : D} {v : V} (hw : ∀ d, ds[i]? ≠ some (.ow d)) (a : Addr) (m : Mo G ds σ a) : Mo G (ds.set i (.sh d)) (σ.set i (some v)) a := by
  rcases m with g | ⟨j, dj, e1, e2⟩
  · exact .inl g
  · have hj : i ≠ j := fun z => hw dj (z ▸ e1)
    exact .inr ⟨j, dj, by rw [List.getElem?_set_ne hj]; exact e1, by rw [List.getElem?_set_ne hj]; exact e2⟩
theorem lctg_name {vs : List Nat} {i : Nat} {x : Str} {p : Pos} (hv : i ∈ vs) (hg : ∀ (s : Shared) (H : Hp) (C : Addr) (cl : List (Str × Addr)) (fp : List Addr), PG (X.blk s H scope (compEnvC scope cl C X.env) fp) (.Name x p) (gName i)) : LcTg X G scope (.Name x p) vs (gName i) (gN i) :=
  ⟨hg, fun v σ H Q q => ⟨wipe_set_mem hv, q⟩, fun gh hs σ H ds c v d Qd Q S hw r q k => k _ _ (S.setSh r) (mo_setSh (hw i hv)) q⟩
theorem lctg_tup2 {vs : List Nat} {i j : Nat} {tg : Expr} (hi : i ∈ vs) (hj : j ∈ vs) (hij : i ≠ j) (hg : ∀ (s : Shared) (H : Hp) (C : Addr) (cl : List (Str × Addr)) (fp : List Addr), PG (X.blk s H scope (compEnvC scope cl C X.env) fp) tg (gTup X.K 2 (gCons (gName i) (gCons (gName j) gNil)))) :
    LcTg X G scope tg vs (gTup X.K 2 (gCons (gName i) (gCons (gName j) gNil))) (gT 2 (gsC i (gsC j gsN))) := by
  refine ⟨hg, fun v σ H Q q => ?_, fun gh hs σ H ds c v d Qd Q S hw r q k => ?_⟩
  · obtain ⟨a, xs, e, h1, h2, v1, r1, e1, v2, r2, e2, e3, q⟩ := q
    exact ⟨a, xs, e, h1, h2, v1, r1, e1, v2, r2, e2, e3, by rw [wipe_set_mem hj, wipe_set_mem hi], q⟩
  · cases d with
    | tup xs =>
      rw [rep_tup] at r
      obtain ⟨a, us, rfl, h1, tl⟩ := r
      obtain ⟨hl, q⟩ := q
      match xs, hl with
      | [x, y], _ =>
        obtain ⟨v1, vr, rfl, r1, r2⟩ := tl.uncons
        obtain ⟨v2, vr2, rfl, r3, r4⟩ := r2.uncons
        cases r4.unnil
        refine ⟨a, _, rfl, SqT.of h1, rfl, v1, _, rfl, v2, _, rfl, rfl, ?_⟩
        have S2 := S.setSh (i := i) r1
        have r3' : Rep (pE (G.blk gh) (ds.set i (.sh x)) (σ.set i (some v1))) H y v2 := Rep.weak (fun a p _ => ⟨p.1, fun m => p.2.1 (mo_set S.len m (fun _ z => nomatch z)), p.2.2⟩) _ _ r3
        refine k _ _ (S2.setSh (i := j) r3') (fun a m => mo_setSh (fun d z => ?_) a (mo_setSh (hw i hi) a m)) q.2
        rw [List.getElem?_set_ne hij] at z
        exact hw j hj d z
    | _ => exact q.elim
theorem wipe_sub {σ : St} {vs : List Nat} : ∀ {ws : List Nat}, (∀ w ∈ ws, w ∈ vs) → L2.wipe (L2.wipe σ ws) vs = L2.wipe σ vs
  | [], _ => rfl
  | w :: ws, h => by
    show L2.wipe ((L2.wipe σ ws).set w none) vs = _
    rw [wipe_set_mem (h w List.mem_cons_self), wipe_sub fun x hx => h x (List.mem_cons_of_mem _ hx)]
theorem wipeD_get {ds : DSt} : ∀ {vs : List Nat} {i : Nat} {d : D}, (wipeD ds vs)[i]? = some (.ow d) → i ∉ vs ∧ ds[i]? = some (.ow d)
  | [], i, d, h => ⟨by simp, h⟩
  | v :: vs, i, d, h => by
    unfold wipeD at h
    rw [getElem?_set'] at h
    by_cases hv : v = i ∧ i < (wipeD ds vs).length
    · rw [if_pos hv] at h; cases h
    · rw [if_neg hv] at h
      obtain ⟨h1, h2⟩ := wipeD_get h
      refine ⟨fun m => ?_, h2⟩
      rcases List.mem_cons.mp m with e | m
      · exact hv ⟨e.symm, (List.getElem?_eq_some_iff.mp h).1⟩
      · exact h1 m
theorem wipeD_keep {ds : DSt} : ∀ {vs : List Nat} {i : Nat}, i ∉ vs → (wipeD ds vs)[i]? = ds[i]?
  | [], i, _ => rfl
  | v :: vs, i, h => by
    simp only [List.mem_cons, not_or] at h
    unfold wipeD
    rw [List.getElem?_set_ne (Ne.symm h.1), wipeD_keep h.2]
theorem wipe_keep {σ : St} : ∀ {vs : List Nat} {i : Nat}, i ∉ vs → (L2.wipe σ vs)[i]? = σ[i]?
  | [], i, _ => rfl
  | v :: vs, i, h => by
    simp only [List.mem_cons, not_or] at h
    unfold L2.wipe
    rw [List.getElem?_set_ne (Ne.symm h.1), wipe_keep h.2]
theorem mo_wipe {ds : DSt} {σ : St} {vs : List Nat} (hn : noOw ds vs = true) (a : Addr) : Mo G (wipeD ds vs) (L2.wipe σ vs) a ↔ Mo G ds σ a := by
  constructor
  · rintro (g | ⟨i, d, e1, e2⟩)
    · exact .inl g
    · obtain ⟨h1, h2⟩ := wipeD_get e1
      rw [wipe_keep h1] at e2
      exact .inr ⟨i, d, h2, e2⟩
  · rintro (g | ⟨i, d, e1, e2⟩)
    · exact .inl g
    · have hi : i ∉ vs := fun m => by
        unfold noOw at hn
        have := List.all_eq_true.mp hn i m
        rw [e1] at this
        cases this
      exact .inr ⟨i, d, by rw [wipeD_keep hi]; exact e1, by rw [wipe_keep hi]; exact e2⟩
theorem lc_read {wi : TI} {g : TG} {vs : List Nat}
    (ii : ∀ hs σ H ds c Qd R, StR G hs σ H ds c → fi ds c Qd → (∀ J H' xs c' hd, StR G hs σ H' ds c' → SameW G.Lg H H' → (∀ q ∈ hd, RepM .T G ds σ H H' q.1 q.2) → Wk G J xs hd → Qd xs c' → R J H') → wi σ H R)
    (T : LcTg X G scope tg vs g tf) :
    ∀ hs σ H ds c Qd Q, StR G hs σ H ds c → eLc fi tf cf ef vs ds c Qd → (∀ v H' d c', StR G hs σ H' ds c' → SameW G.Lg H H' → RepM .O G ds σ H H' d v → Qd d c' → Q v H') → tLc wi g (ttW G cf) (teW G ef) vs σ H Q := by
  intro hs σ H ds c Qd Q S q k
  refine ii hs σ H ds c _ _ S q fun J H1 xs c1 hd S1 s1 rh wk q1 D hD => ?_
  obtain ⟨hno, q1⟩ := q1
  have lD := S1.winv.fresh hD
  have h0D : G.H0 D = none := S1.same.dom D hD
  -- the ghost's context
  let gh : Addr → Prop := fun b => G.gh b ∨ b = D
  have gD : gh D := .inr rfl
  have Sg : StR (G.gho gh) hs σ (upd H1 D (.lst [])) ds c1 := S1.ghost hD
  have held : ∀ H2, SameW G.Lg H1 H2 → (∀ q ∈ hd, Rep2 (pB G) (pE (G.gho gh) ds σ) H2 q.1 q.2) := fun H2 sw q hq => by
    have r := rh q hq
    have r1 : Rep2 (fun a => pB G a) (pE (G.gho gh) ds σ) H1 q.1 q.2 := Rep2.imp (fun a p _ => p) (fun a p n => pE_ghost a p fun z => n (z ▸ hD)) r
    exact Rep2.keep sw (fun a p => p) (fun a z => z.1) r1
  have npD : ¬ pE (G.gho gh) ds σ D := fun z => z.2.1 (.inl gD)
  have back : ∀ {H2 : Hp} {us : List V}, SameW G.Lg H1 H2 → SameW G.Lg H1 (upd H2 D (.lst us)) := fun {H2 us} sw => ⟨fun b o e n1 n2 => by
    rw [upd_ne (ne_of_none e hD)]; exact sw.keep b o e n1 n2, fun b e => by
    by_cases hb : b = D
    · rw [hb]; exact hD
    · rw [upd_ne hb] at e; exact sw.dom b e⟩
  -- the invariant: the list so far, what is left
  refine ⟨fun i m H2 => m = xs.length - i ∧ i ≤ xs.length ∧ ∃ acc vacc c2, StR (G.gho gh) hs σ H2 ds c2 ∧ SameW G.Lg H1 H2 ∧ H2 D = some (.lst vacc) ∧ RepL (pE (G.gho gh) ds σ) H2 acc vacc ∧ lcL tf cf ef (wipeD ds vs) Qd (xs.drop i) acc c2,
    ⟨xs.length, by simp, Nat.zero_le _, [], [], c1, Sg, .new hD, upd_same, .nil, q1⟩, ?_⟩
  rintro i m H2 ⟨rfl, hi, acc, vacc, c2, S2, sw2, eD, ra, q2⟩
  obtain ⟨w1, w2⟩ := wk gh hs σ H2 ds c2 i S2 (held H2 sw2)
  by_cases hlt : i < xs.length
  · obtain ⟨hgo, hy⟩ := w1 hlt
    let N : Hp → Prop := fun H' => ∃ acc vacc c2, StR (G.gho gh) hs σ H' ds c2 ∧ SameW G.Lg H1 H' ∧ H' D = some (.lst vacc) ∧ RepL (pE (G.gho gh) ds σ) H' acc vacc ∧ lcL tf cf ef (wipeD ds vs) Qd (xs.drop (i + 1)) acc c2
    refine .inr ⟨hgo, N, fun H' p' => ⟨xs.length - (i + 1), by omega, rfl, hlt, p'⟩, fun x H3 y => ?_⟩
    obtain ⟨d, ed, sw3, wi3, rx⟩ := hy x H3 y
    have S3 := S2.grow sw3 wi3
    have edr : xs.drop i = d :: xs.drop (i + 1) := by
      rw [List.drop_eq_getElem_cons hlt]
      congr
      have := List.getElem?_eq_getElem hlt
      rw [ed] at this
      exact (Option.some.inj this).symm
    rw [edr] at q2
    have eD3 : H3 D = some (.lst vacc) := sw3.keep D _ eD (fun _ z => nomatch z) (fun _ _ => lD)
    have S3b : StR (G.blk gh) hs (L2.wipe σ vs) H3 (wipeD ds vs) c2 := (S3.wipe vs).toBlk
    have moW := fun a => mo_wipe (G := G.blk gh) (σ := σ) hno a
    have rx' : Rep (pE (G.blk gh) (wipeD ds vs) (L2.wipe σ vs)) H3 d x := Rep.weak (fun a p _ => ⟨p.1, fun m => p.2.1 ((moW a).mp m), p.2.2⟩) _ _ rx
    have ew : L2.wipe (L2.wipe σ vs) vs = L2.wipe σ vs := wipe_sub fun w h => h
    have key := T.og x (L2.wipe σ vs) H3 (fun σ4 H4 => ttW G cf σ4 H4 fun b H5 => if b = true then teW G ef σ4 H5 fun y H6 => ∃ acc, H6 D = some (.lst acc) ∧ acc.length < sizeLine ∧ N (upd H6 D (.lst (acc ++ [y]))) else N H5)
      (T.ig gh hs _ H3 _ c2 x d _ _ S3b (fun j hj dj z => (wipeD_get z).1 hj) rx' q2 fun σ4 ds4 S4 mo4 q4 => ?_)
    · rw [ew] at key
      exact key
    · refine ⟨gh, hs, ds4, c2, _, S4, q4, fun b H5 c5 S5 sw5 q5 => ?_⟩
      have sw25 : SameW G.Lg H2 H5 := sw3.trans sw5
      have S5' : StR (G.gho gh) hs σ H5 ds c5 := S2.grow sw25 S5.winv
      cases b with
      | false =>
        rw [if_neg Bool.false_ne_true] at q5
        show if false = true then _ else N H5
        rw [if_neg Bool.false_ne_true]
        exact ⟨acc, vacc, c5, S5', sw2.trans sw25, sw25.keep D _ eD (fun _ z => nomatch z) (fun _ _ => lD), RepL.keep sw25 (fun a z => z.1) _ _ ra, q5⟩
      | true =>
        rw [if_pos rfl] at q5
        show if true = true then _ else N H5
        rw [if_pos rfl]
        refine ⟨gh, hs, ds4, c5, _, S5, q5, fun v H6 d6 c6 S6 sw6 r6 q6 => ?_⟩
        have sw26 : SameW G.Lg H2 H6 := sw25.trans sw6
        have S6' : StR (G.gho gh) hs σ H6 ds c6 := S2.grow sw26 S6.winv
        have eD6 : H6 D = some (.lst vacc) := sw26.keep D _ eD (fun _ z => nomatch z) (fun _ _ => lD)
        have ra6 : RepL (pE (G.gho gh) ds σ) H6 acc vacc := RepL.keep sw26 (fun a z => z.1) _ _ ra
        have rd6 : Rep (pE (G.gho gh) ds σ) H6 d6 v := Rep.weak (fun a p _ => ⟨p.1, fun m => p.2.1 (mo4 a ((moW a).mpr m)), p.2.2⟩) _ _ (rep2_self.mp r6)
        have hm : Mut (H6 D) := by rw [eD6]; exact trivial
        refine ⟨vacc, eD6, by rw [ra6.len]; exact q6.1, acc ++ [d6], vacc ++ [v], c6, S6'.ghWrite gD eD6 h0D lD, back (sw2.trans sw26), upd_same, ?_, q6.2⟩
        exact RepL.write (fun b hb => upd_ne hb) hm npD _ _ (ra6.append (.one rd6))
  · have e : i = xs.length := by omega
    subst e
    rw [List.drop_length] at q2
    refine .inl ⟨w2 (Nat.le_refl _), ?_⟩
    have S9 : StR G hs σ H2 ds c2 := S2.unghost
    refine k (.ref D) H2 (.lst acc) c2 S9 (s1.trans sw2) ⟨D, vacc, rfl, ⟨lD, s1.dom D hD⟩, eD, RepL.weak (fun a p _ => pE_unghost a p) _ _ ra⟩ q2
/-- [elt for tg in iter if ..] -/
theorem ve_lc {g : TG} (hc : X.calm = true) (hN : X.N.Nodup) (hi : VI .T X G tg iter fi) (ok : BlkOk X.N X.env.scope scope own) (T : LcTg X G scope tg (own.map (·.2)) g tf)
    (ht : ∀ (s : Shared) (H : Hp) (C : Addr) (cl : List (Str × Addr)) (fp : List Addr) (gh : Addr → Prop), VTs (X.blk s H scope (compEnvC scope cl C X.env) fp) (G.blk gh) ifs cf)
    (he : ∀ (s : Shared) (H : Hp) (C : Addr) (cl : List (Str × Addr)) (fp : List Addr) (gh : Addr → Prop), VE .E (X.blk s H scope (compEnvC scope cl C X.env) fp) (G.blk gh) elt ef)
    (hs : ∀ x, foldedSetIterable iter X.env x = pure x := by intro _; rfl) : VE .O X G (.ListComp elt [⟨tg, iter, ifs, 0⟩] scope pos) (eLc fi tf cf ef (own.map (·.2))) := by
  obtain ⟨wi, pi, ii⟩ := hi.ex
  exact ⟨_, pe_lc hc hN pi ok T.pg (fun s H C cl fp => ttW_pt (ht s H C cl fp)) (fun s H C cl fp => teW_pe (he s H C cl fp)) hs, lc_read ii T⟩
/-- y = [elt for tg in iter if ..] -/
theorem vs_lcSh {g : TG} {i : Nat} {y : Str} {py spos : Pos} (hc : X.calm = true) (hN : X.N.Nodup) (hy : X.N[i]? = some y) (hyl : X.env.scope.names.lookup y = some .local)
    (hsw : swapsWith (.ListComp elt [⟨tg, iter, ifs, 0⟩] scope pos) (some (.Name y py)) spos.line X.env = pure true) (hi : VI .T X G tg iter fi) (ok : BlkOk X.N X.env.scope scope own) (T : LcTg X G scope tg (own.map (·.2)) g tf)
    (ht : ∀ (s : Shared) (H : Hp) (C : Addr) (cl : List (Str × Addr)) (fp : List Addr) (gh : Addr → Prop), VTs (X.blk s H scope (compEnvC scope cl C X.env) fp) (G.blk gh) ifs cf)
    (he : ∀ (s : Shared) (H : Hp) (C : Addr) (cl : List (Str × Addr)) (fp : List Addr) (gh : Addr → Prop), VE .E (X.blk s H scope (compEnvC scope cl C X.env) fp) (G.blk gh) elt ef)
    (hs : ∀ x, foldedSetIterable iter X.env x = pure x := by intro _; rfl) : VS X G (.Assign [.Name y py] (.ListComp elt [⟨tg, iter, ifs, 0⟩] scope pos) spos) (sSh i (eLc fi tf cf ef (own.map (·.2)))) := by
  obtain ⟨wi, pi, ii⟩ := hi.ex
  refine ⟨_, ps_setLc hc hN hy hyl hsw pi ok T.pg (fun s H C cl fp => ttW_pt (ht s H C cl fp)) (fun s H C cl fp => teW_pe (he s H C cl fp)) hs, fun hs σ H ds c K E S q k => ?_⟩
  exact lc_read ii T hs σ H ds c _ _ S q fun v H' d c' S' s' r q' => k.nx _ _ _ _ (S'.setSh (rep2_self.mp (RepM.up S (m' := .E) rfl r))) q'
theorem vs_lcOw {g : TG} {i : Nat} {y : Str} {py spos : Pos} (hc : X.calm = true) (hN : X.N.Nodup) (hy : X.N[i]? = some y) (hyl : X.env.scope.names.lookup y = some .local)
    (hsw : swapsWith (.ListComp elt [⟨tg, iter, ifs, 0⟩] scope pos) (some (.Name y py)) spos.line X.env = pure true) (hi : VI .T X G tg iter fi) (ok : BlkOk X.N X.env.scope scope own) (T : LcTg X G scope tg (own.map (·.2)) g tf)
    (ht : ∀ (s : Shared) (H : Hp) (C : Addr) (cl : List (Str × Addr)) (fp : List Addr) (gh : Addr → Prop), VTs (X.blk s H scope (compEnvC scope cl C X.env) fp) (G.blk gh) ifs cf)
    (he : ∀ (s : Shared) (H : Hp) (C : Addr) (cl : List (Str × Addr)) (fp : List Addr) (gh : Addr → Prop), VE .E (X.blk s H scope (compEnvC scope cl C X.env) fp) (G.blk gh) elt ef)
    (hs : ∀ x, foldedSetIterable iter X.env x = pure x := by intro _; rfl) : VS X G (.Assign [.Name y py] (.ListComp elt [⟨tg, iter, ifs, 0⟩] scope pos) spos) (sOw i (eLc fi tf cf ef (own.map (·.2)))) := by
  obtain ⟨wi, pi, ii⟩ := hi.ex
  refine ⟨_, ps_setLc hc hN hy hyl hsw pi ok T.pg (fun s H C cl fp => ttW_pt (ht s H C cl fp)) (fun s H C cl fp => teW_pe (he s H C cl fp)) hs, fun hs σ H ds c K E S q k => ?_⟩
  exact lc_read ii T hs σ H ds c _ _ S q fun v H' d c' S' s' r q' => own_store S S' s' r q'.1.1 q'.1.2 q'.2 k
end
end DL

set_option Elab.async false
set_option linter.all false
set_option maxRecDepth 100000
set_option maxHeartbeats 4000000
/-! DL8: raise, defs by their bodies. -/
namespace DL
open PySem PySem.Spec L2

/-! ### raise -/
structure ExcF (K : PySem.W.Frag) (mg : Str → Option Value) (x : Str) (C : Addr) : Prop where
  gC : mg x = some (.ref C)
  xP : PySem.W.excIn K C [.type "ValueError", .type "Exception", .type "BaseException", .type "object"] "ValueError.__new__" = true
  kP : PySem.W.keepIn K (.ref C) = true
  bP : PySem.W.subIn K (.ref C) (.type "BaseException") = some true
  tP : PySem.W.typeIn K (.ref C) = some (.type "type")
def sRaise (ep : Ep) (x : Str) : DS := fun _ ds c => ep x ds c
section
variable {X : Cx} {G : Gc} {x m : Str} {j : Nat} {p p2 pos pos2 : Pos}
theorem vs_raise (hc : X.calm = true) (go : GOk X G) (F : ExcF X.K X.mg x (G.ca x)) (hg : Gl X x) (hdb : (x == ("__debug__" : Str)) = false := by decide) : VS X G (.Raise (some (.Call (.Name x p) [.Constant (.str m) j p2] [] pos)) none pos2) (sRaise G.ep x) :=
  ⟨_, L2N.ps_raise hc go.tk (L2N.pmk_own PySem.F.excBase_ValueError F.xP F.gC F.kP (raises_own F.bP F.tP) hg hdb), fun hs σ H ds c K E S q k => go.link x hs ds c σ H S q⟩
end

/-! ### defs -/
def startD (N : List Str) (xs : List D) : DSt := xs.map .sh ++ List.replicate (N.length - xs.length) .un
def mkG (W : Wd) (md : Bool) (Lg : Lgs) (A : Addr → Prop) (H : Hp) (ep : Ep) (Wx : WX) : Gc := { Lg := Lg, T := W.T, A := A, gh := fun _ => False, H0 := H, md := md, ca := W.ca, ep := ep, W := Wx }
theorem start_get {N : List Str} {vs : List V} {i : Nat} {v : V} (h : vs[i]? = some v) : (L2.start N vs)[i]? = some (some v) := by
  unfold L2.start
  have hi := (List.getElem?_eq_some_iff.mp h).1
  rw [List.getElem?_append_left (by simpa using hi), List.getElem?_map, h] <;> rfl
theorem startD_get {N : List Str} {xs : List D} {i : Nat} {s : Sl} (h : (startD N xs)[i]? = some s) : s = .un ∨ ∃ d, s = .sh d ∧ xs[i]? = some d := by
  unfold startD at h
  by_cases hi : i < xs.length
  · rw [List.getElem?_append_left (by simpa using hi), List.getElem?_map] at h
    have e : xs[i]? = some xs[i] := List.getElem?_eq_getElem hi
    rw [e] at h
    exact .inr ⟨_, (Option.some.inj h).symm, e⟩
  · rw [List.getElem?_append_right (by simpa using hi), List.getElem?_replicate] at h
    split at h
    · exact .inl (Option.some.inj h).symm
    · cases h
section
variable {P : Program} {w : World} {K : PySem.W.Frag} {mg : Str → Option Value} {base : Heap} {W : Wd}
end

/-! ### short words for the derivations -/
section
variable {X : Cx} {G : Gc}
theorem vT (i : Nat) {x : Str} {pos : Pos} (hN : X.N[i]? = some x := by rfl) (hv : Vis X.env.scope x := by first | exact Or.inl rfl | exact Or.inr (Or.inl rfl) | exact Or.inr (Or.inr rfl)) (hd : (x == ("__debug__" : Str)) = false := by decide)
    (hcd : (x == ("__classdict__" : Str)) = false := by decide) : VE .T X G (.Name x pos) (eV i) := ve_T hN hv hd hcd
theorem vB (i : Nat) {x : Str} {pos : Pos} (hN : X.N[i]? = some x := by rfl) (hv : Vis X.env.scope x := by first | exact Or.inl rfl | exact Or.inr (Or.inl rfl) | exact Or.inr (Or.inr rfl)) (hd : (x == ("__debug__" : Str)) = false := by decide)
    (hcd : (x == ("__classdict__" : Str)) = false := by decide) : VE .B X G (.Name x pos) (eV i) := (ve_T hN hv hd hcd).up
theorem vE (i : Nat) {x : Str} {pos : Pos} (hN : X.N[i]? = some x := by rfl) (hv : Vis X.env.scope x := by first | exact Or.inl rfl | exact Or.inr (Or.inl rfl) | exact Or.inr (Or.inr rfl)) (hd : (x == ("__debug__" : Str)) = false := by decide)
    (hcd : (x == ("__classdict__" : Str)) = false := by decide) : VE .E X G (.Name x pos) (eS i) := ve_E hN hv hd hcd
theorem vR (i : Nat) {x : Str} {pos : Pos} (hN : X.N[i]? = some x := by rfl) (hv : Vis X.env.scope x := by first | exact Or.inl rfl | exact Or.inr (Or.inl rfl) | exact Or.inr (Or.inr rfl)) (hd : (x == ("__debug__" : Str)) = false := by decide)
    (hcd : (x == ("__classdict__" : Str)) = false := by decide) : VE .R X G (.Name x pos) (eR i) := ve_R hN hv hd hcd
end
end DL

set_option Elab.async false
set_option linter.all false
set_option maxRecDepth 100000
set_option maxHeartbeats 4000000
/-! DL9: a def's context with its names checked once; short rules over it. -/
namespace DL
open PySem PySem.Spec L2
/-! ### names, checked once a scope -/
structure Sc where
  N : List Str
  sc : Scope
  vi : List Nat
  li : List Nat
  gs : List Str
  hot : Bool := false
def plainN (x : Str) : Bool := !(x == ("__debug__" : Str)) && !(x == ("__classdict__" : Str)) && !(x == ("__name__" : Str))
def visB (sc : Scope) (x : Str) : Bool := match sc.names.lookup x with
  | some .local => true | some .cell => true | some .free => true | _ => false
def locB (sc : Scope) (x : Str) : Bool := match sc.names.lookup x with
  | some .local => true | some .cell => true | _ => false
def glB (sc : Scope) (x : Str) : Bool := match sc.names.lookup x with
  | some .globalImplicit => true | _ => false
def Sc.ok (S : Sc) : Bool := S.vi.all (fun i => match S.N[i]? with | some x => visB S.sc x && plainN x | none => false) && S.li.all (fun i => match S.N[i]? with | some x => locB S.sc x | none => false) && S.gs.all fun x => glB S.sc x && plainN x
theorem visB_vis {sc : Scope} {x : Str} (h : visB sc x = true) : Vis sc x := by
  unfold visB at h
  unfold Vis
  split at h
  · next e => exact .inl e
  · next e => exact .inr (.inl e)
  · next e => exact .inr (.inr e)
  · cases h
theorem locB_loc {sc : Scope} {x : Str} (h : locB sc x = true) : L2.Loc sc x := by
  unfold locB at h
  unfold L2.Loc
  split at h
  · next e => exact .inl e
  · next e => exact .inr e
  · cases h
theorem glB_gl {sc : Scope} {x : Str} (h : glB sc x = true) : sc.names.lookup x = some .globalImplicit := by
  unfold glB at h
  split at h
  · next e => exact e
  · cases h
theorem plain_d {x : Str} (h : plainN x = true) : (x == ("__debug__" : Str)) = false ∧ (x == ("__classdict__" : Str)) = false ∧ x ≠ "__name__" := by
  unfold plainN at h
  simp only [Bool.and_eq_true, Bool.not_eq_true'] at h
  exact ⟨h.1.1, h.1.2, fun e => by rw [e] at h; exact absurd h.2 (by decide)⟩
/-- a class that isinstance is asked of -/
inductive CR where
  | own (y : Str)
  | ty (T : String)
deriving DecidableEq
def CR.v (ca : Str → Addr) : CR → Value
  | .own y => .ref (ca y)
  | .ty T => .type T
structure MGd where
  fr : List Str
  gi : List (Str × Int)
  gt : List (Str × Str)
  xs : List Str
  crs : List CR := []
  isB : Str → CR → Bool := fun _ _ => false
  sub : Str → Str → Bool := fun _ _ => false
structure Mg (M : MGd) (K : PySem.W.Frag) (mg : Str → Option Value) (ca : Str → Addr) : Prop where
  fr : ∀ {i : Nat} {x : Str}, M.fr[i]? = some x → mg x = none
  gi : ∀ {i : Nat} {x : Str} {n : Int}, M.gi[i]? = some (x, n) → ∃ t, mg x = some (.int n t)
  gt : ∀ {i : Nat} {x : Str} {z : Str}, M.gt[i]? = some (x, z) → ∃ t, mg x = some (.str z t)
  xs : ∀ {i : Nat} {x : Str}, M.xs[i]? = some x → ExcF K mg x (ca x)
  ex : ∀ {x : Str}, x ∈ M.xs → ExcC K (ca x)
  is : ∀ {x : Str} {c : CR}, x ∈ M.xs → c ∈ M.crs → PySem.W.kitOne K (.ref (ca x)) (c.v ca) = some (M.isB x c)
  su : ∀ {x y : Str}, x ∈ M.xs → y ∈ M.xs → PySem.W.exmOne K (.ref (ca x)) (.ref (ca y)) = some (M.sub x y)
/-- a context, its slots, its names -/
structure Bx (X : Cx) (G : Gc) (S : Sc) (M : MGd) (k : Nat) : Prop where
  n : X.N = S.N
  s : X.env.scope = S.sc
  ok : S.ok = true
  nd : X.N.Nodup
  calm_ : S.hot = false → X.calm = true
  fn : ∀ (i : Nat) (x : Str), S.N[i]? = some x → S.li.elem i = true → X.fn x = true ∨ X.env.scope.names.lookup x = some .local
  room_ : S.hot = false → Room k X.A
  hotc : S.hot = true → L2H.RoomH k X.A ∧ L2H.HotC X
  go : GOk X G
  mg : Mg M X.K X.mg G.ca
section
variable {X : Cx} {G : Gc} {S : Sc} {M : MGd} {k : Nat} {x y : Str} {pos p p2 pos' : Pos}
theorem Bx.calm (B : Bx X G S M k) (hh : S.hot = false) : X.calm = true := B.calm_ hh
theorem Bx.room (B : Bx X G S M k) (hh : S.hot = false) : Room k X.A := B.room_ hh
theorem Bx.hN (B : Bx X G S M k) {i : Nat} (h : S.N[i]? = some x) : X.N[i]? = some x := by rw [B.n]; exact h
theorem Bx.vis (B : Bx X G S M k) {i : Nat} (h : S.N[i]? = some x) (hv : S.vi.elem i = true) : Vis X.env.scope x ∧ (x == ("__debug__" : Str)) = false ∧ (x == ("__classdict__" : Str)) = false ∧ x ≠ "__name__" := by
  have o := B.ok
  unfold Sc.ok at o
  simp only [Bool.and_eq_true, List.all_eq_true] at o
  have q := o.1.1 i (List.elem_iff.mp hv)
  rw [h] at q
  have q : (visB S.sc x && plainN x) = true := q
  rw [Bool.and_eq_true] at q
  rw [B.s]
  exact ⟨visB_vis q.1, plain_d q.2⟩
theorem Bx.loc (B : Bx X G S M k) {i : Nat} (h : S.N[i]? = some x) (hv : S.li.elem i = true) : L2.Loc X.env.scope x := by
  have o := B.ok
  unfold Sc.ok at o
  simp only [Bool.and_eq_true, List.all_eq_true] at o
  have q := o.1.2 i (List.elem_iff.mp hv)
  rw [h] at q
  rw [B.s]
  exact locB_loc q
theorem Bx.gl (B : Bx X G S M k) {j : Nat} (h : S.gs[j]? = some x) : Gl X x ∧ (x == ("__debug__" : Str)) = false ∧ x ≠ "__name__" := by
  have o := B.ok
  unfold Sc.ok at o
  simp only [Bool.and_eq_true, List.all_eq_true] at o
  have q := o.2 x (List.mem_of_getElem? h)
  obtain ⟨q1, q2⟩ := q
  refine ⟨?_, (plain_d q2).1, (plain_d q2).2.2⟩
  show X.env.scope.names.lookup x = _
  rw [B.s]
  exact glB_gl q1
/-! names read -/
theorem Bx.vT (B : Bx X G S M k) (i : Nat) (h : S.N[i]? = some x := by rfl) (hv : S.vi.elem i = true := by rfl) : VE .T X G (.Name x pos) (eV i) := ve_T (B.hN h) (B.vis h hv).1 (B.vis h hv).2.1 (B.vis h hv).2.2.1
theorem Bx.vB (B : Bx X G S M k) (i : Nat) (h : S.N[i]? = some x := by rfl) (hv : S.vi.elem i = true := by rfl) : VE .B X G (.Name x pos) (eV i) := (B.vT i h hv).up
theorem Bx.vE (B : Bx X G S M k) (i : Nat) (h : S.N[i]? = some x := by rfl) (hv : S.vi.elem i = true := by rfl) : VE .E X G (.Name x pos) (eS i) := ve_E (B.hN h) (B.vis h hv).1 (B.vis h hv).2.1 (B.vis h hv).2.2.1
theorem Bx.vR (B : Bx X G S M k) (i : Nat) (h : S.N[i]? = some x := by rfl) (hv : S.vi.elem i = true := by rfl) : VE .R X G (.Name x pos) (eR i) := ve_R (B.hN h) (B.vis h hv).1 (B.vis h hv).2.1 (B.vis h hv).2.2.1
theorem Bx.gint (B : Bx X G S M k) (j i : Nat) {n : Int} (h : S.gs[j]? = some x := by rfl) (hm : M.gi[i]? = some (x, n) := by rfl) : VE .N X G (.Name x pos) (eC (.int n)) := by
  obtain ⟨t, e⟩ := B.mg.gi hm
  exact ve_gint (B.gl h).1 e (B.gl h).2.1
theorem Bx.gstr (B : Bx X G S M k) (j i : Nat) {n : Str} (h : S.gs[j]? = some x := by rfl) (hm : M.gt[i]? = some (x, n) := by rfl) : VE .N X G (.Name x pos) (eC (.str n)) := by
  obtain ⟨t, e⟩ := B.mg.gt hm
  exact ve_gstr (B.gl h).1 e (B.gl h).2.1
/-! targets, statements -/
theorem Bx.gN (B : Bx X G S M k) (i : Nat) (h : S.N[i]? = some x := by rfl) (hv : S.li.elem i = true := by rfl) : VG X G (.Name x pos) (DL.gN i) := vg_name B.nd (B.hN h) (B.loc h hv) (B.fn _ x h hv)
theorem Bx.gC (B : Bx X G S M k) (i : Nat) {ts : List Expr} {f : DGs} (h2 : VGs X G ts f) (h : S.N[i]? = some x := by rfl) (hv : S.li.elem i = true := by rfl)
    (hs : (assignEach (.Name x pos :: ts) X.env).map (·.2) = assign (.Name x pos) X.env :: (assignEach ts X.env).map (·.2) := by rfl) : VGs X G (.Name x pos :: ts) (gsC i f) := vgs_cons B.nd (B.hN h) (B.loc h hv) h2 (B.fn _ x h hv) hs
theorem Bx.gT (B : Bx X G S M k) {es : List Expr} {kk n : Nat} {f : DGs} (h : VGs X G es f) (hn : (assignEach es X.env).length = n := by rfl) (hst : (assignEach es X.env).findIdx? (·.1) = none := by rfl) (hh : S.hot = false := by rfl) : VG X G (.Tuple es kk pos) (DL.gT n f) := vg_tup (B.calm hh) h hn hst
variable {e a b : Expr} {es : List Expr} {f g : DE} {fa : DA} {op : List D → Option D}
theorem Bx.sh (B : Bx X G S M k) (i : Nat) (he : VE .E X G e f) (h : S.N[i]? = some x := by rfl) (hv : S.li.elem i = true := by rfl) (hs : swapsWith e (some (.Name x pos')) pos.line X.env = pure false := by rfl) :
    VS X G (.Assign [.Name x pos'] e pos) (sSh i f) := vs_sh B.nd (B.hN h) (B.loc h hv) he hs (B.fn _ x h hv)
theorem Bx.ow (B : Bx X G S M k) (i : Nat) (he : VE .O X G e f) (h : S.N[i]? = some x := by rfl) (hv : S.li.elem i = true := by rfl) (hs : swapsWith e (some (.Name x pos')) pos.line X.env = pure false := by rfl) :
    VS X G (.Assign [.Name x pos'] e pos) (sOw i f) := vs_ow B.nd (B.hN h) (B.loc h hv) he hs (B.fn _ x h hv)
theorem Bx.augAdd (B : Bx X G S M k) (i : Nat) (he : VE .B X G e f) (h : S.N[i]? = some x := by rfl) (hv : S.li.elem i = true := by rfl) : VS X G (.AugAssign (.Name x pos') .Add e pos) (sAu i (dInt fun i j => some (i + j)) f) := vs_augAdd B.nd (B.hN h) (B.loc h hv) he (B.fn _ x h hv)
theorem Bx.augSub (B : Bx X G S M k) (i : Nat) (he : VE .B X G e f) (h : S.N[i]? = some x := by rfl) (hv : S.li.elem i = true := by rfl) : VS X G (.AugAssign (.Name x pos') .Sub e pos) (sAu i dSub f) := vs_augSub B.nd (B.hN h) (B.loc h hv) he (B.fn _ x h hv)
theorem Bx.augMul (B : Bx X G S M k) (i : Nat) (he : VE .B X G e f) (h : S.N[i]? = some x := by rfl) (hv : S.li.elem i = true := by rfl) : VS X G (.AugAssign (.Name x pos') .Mult e pos) (sAu i dMulI f) := vs_augMul B.nd (B.hN h) (B.loc h hv) he (B.fn _ x h hv)
theorem Bx.augExt (B : Bx X G S M k) (i : Nat) (he : VE .B X G e f) (h : S.N[i]? = some x := by rfl) (hv : S.li.elem i = true := by rfl) : VS X G (.AugAssign (.Name x pos') .Add e pos) (sExt i f) := vs_augExt B.nd (B.hN h) (B.loc h hv) he (B.fn _ x h hv)
theorem Bx.asg (B : Bx X G S M k) {tg : Expr} {gf : DG} (he : VE .E X G e f) (hg : VG X G tg gf) (hs : swapsWithSole [tg] e pos.line X.env = pure false := by rfl) (hw : swappedStores [tg] e X.env = pure none := by rfl)
    (h1 : (assignEach [tg] X.env).map (·.2) = [assign tg X.env] := by rfl) : VS X G (.Assign [tg] e pos) (sAsg f gf) := vs_asg he hg hs hw h1
theorem Bx.raise (B : Bx X G S M k) {m : Str} {jj : Nat} (j i : Nat) (h : S.gs[j]? = some x := by rfl) (hm : M.xs[i]? = some x := by rfl) (hh : S.hot = false := by rfl) : VS X G (.Raise (some (.Call (.Name x p) [.Constant (.str m) jj p2] [] pos)) none pos') (sRaise G.ep x) := vs_raise (B.calm hh) B.go (B.mg.xs hm) (B.gl h).1 (B.gl h).2.1
theorem Bx.For (B : Bx X G S M k) (hp : PassesOwn (model X.prog X.w) X.A X.env X.xe) {tg iter : Expr} {body : List Stmt} {fi : DI} {tf : DG} {bf : DS} (hi : VI .E X G tg iter fi) (hg : VG X G tg tf) (hb : VSs X G body bf)
    (hs : ∀ x, foldedSetIterable iter X.env x = pure x := by intro _; rfl) (hh : S.hot = false := by rfl) : VS X G (.For tg iter body [] pos) (sFor fi tf bf) := vs_for hp (B.calm hh) hi hg hb hs
/-! calls -/
theorem Bx.bf (B : Bx X G S M k) (j i : Nat) {id : String} (b : BR X G (.builtin id) op) (hv : bootBuiltins x = some (.builtin id)) (ha : VA .B X G (a :: es) fa) (h : S.gs[j]? = some x := by rfl) (hm : M.fr[i]? = some x := by rfl)
    (he : starEach (a :: es) X.env = (false, eval a X.env) :: starEach es X.env := by rfl) (hpl : (backTo pos (starEach es X.env)).any (·.1) = false := by rfl) : VE .N X G (.Call (.Name x p) (a :: es) [] pos) (eCall op fa) := ve_bf b (B.gl h).1 (B.mg.fr hm) hv ha (B.gl h).2.2 (B.gl h).2.1 he hpl
theorem Bx.bt (B : Bx X G S M k) (j i : Nat) {T : String} (b : BR X G (.type T) op) (hv : bootBuiltins x = some (.type T)) (ha : VA .B X G (a :: es) fa) (h : S.gs[j]? = some x := by rfl) (hm : M.fr[i]? = some x := by rfl)
    (he : starEach (a :: es) X.env = (false, eval a X.env) :: starEach es X.env := by rfl) (hpl : (backTo pos (starEach es X.env)).any (·.1) = false := by rfl) : VE .N X G (.Call (.Name x p) (a :: es) [] pos) (eCall op fa) := ve_bt b (B.gl h).1 (B.mg.fr hm) hv ha (B.gl h).2.2 (B.gl h).2.1 he hpl
variable {n k' : Nat} {sp : FSp}
/-- a callee's fact, in this context -/
abbrev Cal (X : Cx) (G : Gc) (k' : Nat) (x : Str) (n : Nat) (md : Bool) (sp : FSp) : Prop := FnD X.prog X.w X.K X.mg X.base G.wd k' x n md sp
theorem Bx.fnN (B : Bx X G S M k) (j : Nat) (F : Cal X G k' x n false sp) (hk : k' ≤ k) (ha : VA .B X G (a :: es) fa) (h : S.gs[j]? = some x := by rfl) (hn : (a :: es).length = n := by rfl)
    (he : starEach (a :: es) X.env = (false, eval a X.env) :: starEach es X.env := by rfl) (hpl : (backTo pos (starEach es X.env)).any (·.1) = false := by rfl) (hh : S.hot = false := by rfl) : VE .N X G (.Call (.Name x p) (a :: es) [] pos) (eFn G.ep n sp fa) := ve_fn F ((B.room hh).mono hk) (B.gl h).1 B.go ha rfl hn (B.gl h).2.1 he hpl
/-! range -/
theorem Bx.r1 (B : Bx X G S M k) {m : Md} {tg : Expr} (j i : Nat) (ha : VA .B X G [a] fa) (h : S.gs[j]? = some ("range" : Str) := by rfl) (hm : M.fr[i]? = some ("range" : Str) := by rfl) (hs : starEach [a] X.env = [(false, eval a X.env)] := by rfl) : VI m X G tg (.Call (.Name "range" p) [a] [] pos) (iR1 fa) := vi_r1 (B.gl h).1 (B.mg.fr hm) ha hs
theorem Bx.r2 (B : Bx X G S M k) {m : Md} {tg : Expr} (j i : Nat) (ha : VA .B X G [a, b] fa) (h : S.gs[j]? = some ("range" : Str) := by rfl) (hm : M.fr[i]? = some ("range" : Str) := by rfl) (hs : starEach [a, b] X.env = [(false, eval a X.env), (false, eval b X.env)] := by rfl) (hs2 : starEach [b] X.env = [(false, eval b X.env)] := by rfl) : VI m X G tg (.Call (.Name "range" p) [a, b] [] pos) (iR2 fa) := vi_r2 (B.gl h).1 (B.mg.fr hm) ha hs hs2
theorem Bx.r3 (B : Bx X G S M k) {m : Md} {tg d : Expr} (j i : Nat) (ha : VA .B X G [a, b, d] fa) (h : S.gs[j]? = some ("range" : Str) := by rfl) (hm : M.fr[i]? = some ("range" : Str) := by rfl) (hs : starEach [a, b, d] X.env = (false, eval a X.env) :: starEach [b, d] X.env := by rfl) (hpl : (backTo pos (starEach [b, d] X.env)).any (·.1) = false := by rfl) : VI m X G tg (.Call (.Name "range" p) [a, b, d] [] pos) (iR3 fa) := vi_r3 (B.gl h).1 (B.mg.fr hm) ha hs hpl
theorem Bx.rev (B : Bx X G S M k) {m : Md} {tg : Expr} (j i : Nat) (he : VE m X G e f) (h : S.gs[j]? = some ("reversed" : Str) := by rfl) (hm : M.fr[i]? = some ("reversed" : Str) := by rfl) (hs : starEach [e] X.env = [(false, eval e X.env)] := by rfl) : VI m X G tg (.Call (.Name "reversed" p) [e] [] pos) (iRv f) := vi_rev (B.gl h).1 (B.mg.fr hm) he hs
theorem Bx.enum (B : Bx X G S M k) {m : Md} {elts : List Expr} {kk : Nat} {tpos : Pos} (j i : Nat) (he : VE m X G e f) (h : S.gs[j]? = some ("enumerate" : Str) := by rfl) (hm : M.fr[i]? = some ("enumerate" : Str) := by rfl) (hs : starEach [e] X.env = [(false, eval e X.env)] := by rfl) : VI m X G (.Tuple elts kk tpos) (.Call (.Name "enumerate" p) [e] [] pos) (iEn f) := vi_enum (B.gl h).1 (B.mg.fr hm) he hs
theorem Bx.ix (B : Bx X G S M k) (ha : VE .B X G a f) (hb : VE .B X G b g) (hs : PlainIx b := by intro _ _; rfl) (hh : S.hot = false := by rfl) : VE .N X G (.Subscript a b pos) (eOp2 dIx f g) := ve_ix (B.room hh) ha hb hs
theorem Bx.ixE (B : Bx X G S M k) (ha : VE .E X G a f) (hb : VE .N X G b g) (hs : PlainIx b := by intro _ _; rfl) (hh : S.hot = false := by rfl) : VE .E X G (.Subscript a b pos) (eOp2 dIxA f g) := ve_ixE (B.room hh) ha hb hs
theorem Bx.ixT (B : Bx X G S M k) (ha : VE .T X G a f) (hb : VE .N X G b g) (hs : PlainIx b := by intro _ _; rfl) (hh : S.hot = false := by rfl) : VE .E X G (.Subscript a b pos) (eOp2 dIxA f g) := ve_ixT (B.room hh) ha hb hs
theorem Bx.app (B : Bx X G S M k) {apos spos : Pos} (i : Nat) (he : VE .E X G e f) (h : S.N[i]? = some x := by rfl) (hv : S.vi.elem i = true := by rfl)
    (hbase : attributeBase (.Name x pos') "append" X.env (eval (.Name x pos') X.env) = eval (.Name x pos') X.env := by rfl)
    (hfew : ((backTo pos (starEach (e :: []) X.env)).all (fun x => !x.1) && (backToKw pos (keywordEach [] X.env)).all (fun x => x.1.isSome)
      && decide ((e :: ([] : List Expr)).length + ([] : List Keyword).length + (if ([] : List Keyword).isEmpty then 0 else 1) < 30)) = true := by rfl)
    (hline : (apos.endLine == pos.line) = true := by rfl) (hse : starEach (e :: []) X.env = (false, eval e X.env) :: starEach [] X.env := by rfl) (hplain : (backTo pos (starEach [] X.env)).any (·.1) = false := by rfl)
    (hs : swapsWith (.Call (.Attribute (.Name x pos') "append" apos) [e] [] pos) none spos.line X.env = pure false := by rfl) : VS X G (.Expr (.Call (.Attribute (.Name x pos') "append" apos) [e] [] pos) spos) (sApp i f) :=
  vs_app (B.hN h) (B.vis h hv).1 he hbase hfew hline hse hplain hs (B.vis h hv).2.1 (B.vis h hv).2.2.1
/-! blocks -/
def blkB (N : List Str) (sc scope : Scope) (own : List (Str × Nat)) : Bool :=
  (match scope.kind with | .function => true | _ => false) && scope.names.all (fun y => scope.names.lookup y.1 == some y.2) && own.all (fun p => N[p.2]? == some p.1) &&
  scope.names.all (fun y => match y.2 with | .free => (match sc.names.lookup y.1 with | some .free => true | some .cell => true | _ => false) | _ => true) &&
  scope.names.all (fun y => match y.2 with | .local => (own.map (·.1)).contains y.1 || !N.contains y.1 | .cell => (own.map (·.1)).contains y.1 || !N.contains y.1 | _ => true)
theorem blkB_ok {N : List Str} {sc scope : Scope} {own : List (Str × Nat)} (h : blkB N sc scope own = true) : BlkOk N sc scope own := by
  unfold blkB at h
  simp only [Bool.and_eq_true, List.all_eq_true] at h
  obtain ⟨⟨⟨⟨h1, h2⟩, h3⟩, h4⟩, h5⟩ := h
  refine ⟨?_, fun y hy => eq_of_beq (h2 y hy), fun p hp => eq_of_beq (h3 p hp), fun y hy e => ?_, fun y hy e => ?_⟩
  · split at h1
    · next z => exact z
    · cases h1
  · have q := h4 y hy
    rw [e] at q
    have q : (match sc.names.lookup y.1 with | some .free => true | some .cell => true | _ => false) = true := q
    split at q
    · next z => exact .inr z
    · next z => exact .inl z
    · cases q
  · have q := h5 y hy
    have q : ((own.map (·.1)).contains y.1 || !N.contains y.1) = true := by
      rcases e with e | e <;> (rw [e] at q; exact q)
    rw [Bool.or_eq_true] at q
    rcases q with q | q
    · exact .inl (List.contains_iff_mem.mp q)
    · refine .inr fun m => ?_
      rw [Bool.not_eq_true'] at q
      rw [List.contains_iff_mem.mpr m] at q
      cases q
/-- the block's own names, checked -/
structure BlkS (S S' : Sc) (scope : Scope) (own : List (Str × Nat)) : Prop where
  n : S'.N = S.N
  h : S'.hot = S.hot
  s : S'.sc = relS scope S.sc
  ok : S'.ok = true
  b : blkB S.N S.sc scope own = true
  f : S'.li.all (fun i => match S'.N[i]? with | some x => locB scope x | none => false) = true
theorem Bx.blk (B : Bx X G S M k) (hc : S.hot = false) {S' : Sc} {scope : Scope} {own : List (Str × Nat)} (hs : BlkS S S' scope own) (s : Shared) (H : Hp) (C : Addr) (cl : List (Str × Addr)) (fp : List Addr) (gh : Addr → Prop) : Bx (X.blk s H scope (compEnvC scope cl C X.env) fp) (G.blk gh) S' M k where
  n := by rw [hs.n]; exact B.n
  s := by
    rw [hs.s, ← B.s]
    rfl
  ok := hs.ok
  nd := B.nd
  calm_ := fun z => B.calm_ (hs.h.symm.trans z)
  fn := fun i x h hv => by
    have q := List.all_eq_true.mp hs.f i (List.elem_iff.mp hv)
    rw [h] at q
    rcases locB_loc (show locB scope x = true from q) with e | e
    · refine .inr ?_
      show (relS scope X.env.scope).names.lookup x = some .local
      exact lookup_relabel_local (env := X.env) e
    · refine .inl ?_
      show (scope.names.lookup x == some .cell) = true
      rw [e]
      rfl
  room_ := fun z => B.room_ (hs.h.symm.trans z)
  hotc := fun z => absurd (hc.symm.trans (hs.h.symm.trans z)) Bool.false_ne_true
  go := gok_blk
  mg := B.mg
theorem Bx.bk (B : Bx X G S M k) {S' : Sc} {scope : Scope} {own : List (Str × Nat)} (hs : BlkS S S' scope own) : BlkOk X.N X.env.scope scope own := by
  rw [B.n, B.s]
  exact blkB_ok hs.b
end

/-! ### a def by its body -/
section
variable {P : Program} {w : World} {K : PySem.W.Frag} {mg : Str → Option Value} {base : Heap} {W : Wd}
theorem fnd_ok {x : Str} {params : Arguments} {body : List Stmt} {scope : Scope} {f : Addr} {fd : FuncData} {S : Sc} {M : MGd} {ps : List Str} {k n : Nat} {md : Bool} {sp : FSp} {g : Ep → DS} (F : FunD K x x params body scope [] [] f fd) (hm : mg x = some (.ref f)) (hb : Binds K fd ps []) (FS : FnScope S.N ps scope) (hsc : S.sc = scope) (ok : S.ok = true) (hM : Mg M K mg W.ca) (hn : ps.length = n) (hot : S.hot = false)
    (hbody : ∀ (cdv : Value) (A : Around) (outer : List Env) (s : Shared) (H : Hp) (E : XK) (Lg : Lgs) (Aa : Addr → Prop) (ep : Ep) (Wx : WX),
      Bx (cxOf (L2N.CX P w) P w K mg base S.N x scope f cdv A outer s H E) (mkG W md Lg Aa H ep Wx) S M k →
      PassesOwn (model P w) (cxOf (L2N.CX P w) P w K mg base S.N x scope f cdv A outer s H E).A (cxOf (L2N.CX P w) P w K mg base S.N x scope f cdv A outer s H E).env (cxOf (L2N.CX P w) P w K mg base S.N x scope f cdv A outer s H E).xe →
      VSs (cxOf (L2N.CX P w) P w K mg base S.N x scope f cdv A outer s H E) (mkG W md Lg Aa H ep Wx) body (g ep))
    (sound : ∀ (args : List D) (c : Nat) (Qd : D → Nat → Prop) (Ed : Str → Nat → Prop), args.length = n → sp args c Qd Ed → g (fun x _ c => Ed x c) { nx := fun _ c => Qd .non c, rt := Qd } (startD S.N args) c) :
    FnOk P w K mg base (L2N.CX P w) (k + 1) f fd ps (liftSp W n md sp) := by
  refine F.ok (CX := L2N.CX P w) FS (fun vs H Q E h => ?_) (fun cdv A outer s H vs Q E hr h => ?_)
  · obtain ⟨Lg, Aa, ds, c, Qd, Ed, hl, hw, hrep, _⟩ := h
    rw [hrep.len, hl, hn]
  · obtain ⟨Lg, Aa, ds, c, Qd, Ed, hl, hw, hrep, hsp, hQ, hE⟩ := h
    have go : GOk (cxOf (L2N.CX P w) P w K mg base S.N x scope f cdv A outer s H E) (mkG W md Lg Aa H (fun x _ c => Ed x c) fun cls d _ H' => E cls d H') :=
      ⟨L2N.takes_of rfl rfl rfl rfl, fun x hs ds c σ H' S ep => hE x c H' S.same S.winv ep⟩
    have B : Bx (cxOf (L2N.CX P w) P w K mg base S.N x scope f cdv A outer s H E) (mkG W md Lg Aa H (fun x _ c => Ed x c) fun cls d _ H' => E cls d H') S M k :=
      ⟨rfl, hsc.symm, ok, FS.nd, fun _ => rfl, fun _ _ _ _ => .inl rfl, fun _ => hr, fun z => absurd (hot.symm.trans z) Bool.false_ne_true, go, hM⟩
    obtain ⟨t, pt, it⟩ := (hbody cdv A outer s H E Lg Aa (fun x _ c => Ed x c) (fun cls d _ H' => E cls d H') B (passes_of rfl)).ex
    refine ⟨t, pt, it [] (L2.start S.N vs) H (startD S.N ds) c { nx := fun _ c => Qd .non c, rt := Qd } _ ?_ (sound ds c Qd Ed hl hsp) ⟨fun σ H' ds' c' S' q => ?_, fun σ H' ds' c' v d S' r q => ?_, fun _ _ _ _ _ z => z.elim, fun _ _ _ _ _ z => z.elim⟩⟩
    · refine ⟨.refl, hw, ?_, fun i d e => ?_, fun i d e => ?_, fun i j di dj p e => ?_, fun q hq => (nomatch hq), fun a z => z.elim⟩
      · unfold startD L2.start
        have := hrep.len
        simp only [List.length_append, List.length_map, List.length_replicate]
        omega
      · rcases startD_get e with z | ⟨d', z, e'⟩
        · cases z
        · cases z
          obtain ⟨v, ev, rv⟩ := hrep.get e'
          refine ⟨v, start_get ev, Rep.weak (fun a p _ => ⟨p.1, fun m => ?_, .inl p.2⟩) _ _ rv⟩
          rcases m with g | ⟨j, dj, ej, _⟩
          · exact g
          · rcases startD_get ej with z | ⟨_, z, _⟩ <;> cases z
      · rcases startD_get e with z | ⟨_, z, _⟩ <;> cases z
      · rcases startD_get e with z | ⟨_, z, _⟩ <;> cases z
    · exact hQ .non H' .non c' S'.same S'.winv (rep_non.mpr rfl) q
    · exact hQ v H' d c' S'.same S'.winv r q
theorem fnd {x : Str} {params : Arguments} {body : List Stmt} {scope : Scope} {f : Addr} {fd : FuncData} {S : Sc} {M : MGd} {ps : List Str} {k n : Nat} {md : Bool} {sp : FSp} {g : Ep → DS} (F : FunD K x x params body scope [] [] f fd) (hm : mg x = some (.ref f)) (hb : Binds K fd ps []) (FS : FnScope S.N ps scope) (hsc : S.sc = scope) (ok : S.ok = true) (hM : Mg M K mg W.ca) (hn : ps.length = n) (hot : S.hot = false)
    (hbody : ∀ (cdv : Value) (A : Around) (outer : List Env) (s : Shared) (H : Hp) (E : XK) (Lg : Lgs) (Aa : Addr → Prop) (ep : Ep) (Wx : WX),
      Bx (cxOf (L2N.CX P w) P w K mg base S.N x scope f cdv A outer s H E) (mkG W md Lg Aa H ep Wx) S M k →
      PassesOwn (model P w) (cxOf (L2N.CX P w) P w K mg base S.N x scope f cdv A outer s H E).A (cxOf (L2N.CX P w) P w K mg base S.N x scope f cdv A outer s H E).env (cxOf (L2N.CX P w) P w K mg base S.N x scope f cdv A outer s H E).xe →
      VSs (cxOf (L2N.CX P w) P w K mg base S.N x scope f cdv A outer s H E) (mkG W md Lg Aa H ep Wx) body (g ep))
    (sound : ∀ (args : List D) (c : Nat) (Qd : D → Nat → Prop) (Ed : Str → Nat → Prop), args.length = n → sp args c Qd Ed → g (fun x _ c => Ed x c) { nx := fun _ c => Qd .non c, rt := Qd } (startD S.N args) c) :
    FnD P w K mg base W (k + 1) x n md sp :=
  ⟨f, fd, ps, fnd_ok F hm hb FS hsc ok hM hn hot hbody sound, hm, F.kp, hb⟩
theorem FnD.mono {x : Str} {k n : Nat} {md : Bool} {sp sp' : FSp} (F : FnD P w K mg base W k x n md sp) (h : ∀ args c Q E, args.length = n → sp' args c Q E → sp args c Q E) : FnD P w K mg base W k x n md sp' := by
  obtain ⟨f, fd, ps, Fo, hm, hk, hb⟩ := F.ex
  refine ⟨f, fd, ps, Fo.imp fun vs H Q E q => ?_, hm, hk, hb⟩
  obtain ⟨Lg, A, ds, c, Qd, Ed, h1, h2, h3, h4, h5⟩ := q
  exact ⟨Lg, A, ds, c, Qd, Ed, h1, h2, h3, h _ _ _ _ h1 h4, h5⟩
end
end DL

set_option Elab.async false
set_option linter.all false
set_option maxRecDepth 100000
set_option maxHeartbeats 4000000
/-! DL10: comprehensions over Bx; more rules. -/
namespace DL
open PySem PySem.Spec L2
/-- the block's scope -/
def mkS (S : Sc) (scope : Scope) (vi li : List Nat) (gs : List Str) : Sc := ⟨S.N, relS scope S.sc, vi, li, gs, S.hot⟩
def blkS (S : Sc) (scope : Scope) (own : List (Str × Nat)) (vi li : List Nat) (gs : List Str) : Bool :=
  (mkS S scope vi li gs).ok && blkB S.N S.sc scope own && li.all (fun i => match S.N[i]? with | some x => locB scope x | none => false)
theorem blkS_ok {S : Sc} {scope : Scope} {own : List (Str × Nat)} {vi li : List Nat} {gs : List Str} (h : blkS S scope own vi li gs = true) : BlkS S (mkS S scope vi li gs) scope own := by
  unfold blkS at h
  simp only [Bool.and_eq_true] at h
  exact ⟨rfl, rfl, rfl, h.1.1, h.1.2, h.2⟩
section
variable {X : Cx} {G : Gc} {S : Sc} {M : MGd} {k : Nat} {elt tg iter : Expr} {ifs : List Expr} {scope : Scope} {pos : Pos} {fi : DI} {cf : DT} {ef : DE} {x y : Str}
/-- what a block's parts are shown in -/
abbrev InBlk (X : Cx) (G : Gc) (S : Sc) (M : MGd) (k : Nat) (scope : Scope) (vi li : List Nat) (gs : List Str) (J : Cx → Gc → Prop) : Prop :=
  ∀ (s : Shared) (H : Hp) (C : Addr) (cl : List (Str × Addr)) (fp : List Addr) (gh : Addr → Prop), Bx (X.blk s H scope (compEnvC scope cl C X.env) fp) (G.blk gh) (mkS S scope vi li gs) M k → J (X.blk s H scope (compEnvC scope cl C X.env) fp) (G.blk gh)
theorem Bx.inB (B : Bx X G S M k) (hc : S.hot = false) {own : List (Str × Nat)} {vi li : List Nat} {gs : List Str} {J : Cx → Gc → Prop} (hb : blkS S scope own vi li gs = true) (h : InBlk X G S M k scope vi li gs J) (s : Shared) (H : Hp) (C : Addr) (cl : List (Str × Addr)) (fp : List Addr) (gh : Addr → Prop) : J (X.blk s H scope (compEnvC scope cl C X.env) fp) (G.blk gh) :=
  h s H C cl fp gh (B.blk hc (blkS_ok hb) s H C cl fp gh)
structure LcT (X : Cx) (G : Gc) (scope : Scope) (tg : Expr) (vs : List Nat) (tf : DG) : Prop where
  ex : ∃ g, LcTg X G scope tg vs g tf
theorem Bx.lcN (B : Bx X G S M k) {own : List (Str × Nat)} {vi li : List Nat} {gs : List Str} {p : Pos} (i : Nat) (hb : blkS S scope own vi li gs = true) (h : S.N[i]? = some x := by rfl) (hl : li.elem i = true := by rfl) (ho : (own.map (·.2)).elem i = true := by rfl) (hc : S.hot = false := by rfl) : LcT X G scope (.Name x p) (own.map (·.2)) (DL.gN i) :=
  ⟨_, lctg_name (List.elem_iff.mp ho) fun s H C cl fp => by
    have B' := B.blk hc (blkS_ok hb) s H C cl fp (fun _ => False)
    exact pg_name B'.nd (B'.hN (i := i) h) (B'.loc (i := i) h hl) (B'.fn i x h hl)⟩
theorem Bx.lcT (B : Bx X G S M k) {own : List (Str × Nat)} {vi li : List Nat} {gs : List Str} {p p1 p2 : Pos} {kk : Nat} (i j : Nat) (hb : blkS S scope own vi li gs = true) (h1 : S.N[i]? = some x := by rfl) (h2 : S.N[j]? = some y := by rfl) (hl1 : li.elem i = true := by rfl) (hl2 : li.elem j = true := by rfl)
    (ho1 : (own.map (·.2)).elem i = true := by rfl) (ho2 : (own.map (·.2)).elem j = true := by rfl) (hij : i ≠ j := by decide) (hc : S.hot = false := by rfl) : LcT X G scope (.Tuple [.Name x p1, .Name y p2] kk p) (own.map (·.2)) (DL.gT 2 (gsC i (gsC j gsN))) :=
  ⟨_, lctg_tup2 (List.elem_iff.mp ho1) (List.elem_iff.mp ho2) hij fun s H C cl fp => by
    have B' := B.blk hc (blkS_ok hb) s H C cl fp (fun _ => False)
    exact pg_tup (B'.calm hc) (pgs_cons (pg_name B'.nd (B'.hN (i := i) h1) (B'.loc (i := i) h1 hl1) (B'.fn i x h1 hl1)) (pgs_cons (pg_name B'.nd (B'.hN (i := j) h2) (B'.loc (i := j) h2 hl2) (B'.fn j y h2 hl2)) pgs_nil rfl) rfl) rfl rfl⟩
theorem Bx.lc (B : Bx X G S M k) {own : List (Str × Nat)} {vi li : List Nat} {gs : List Str} {tf : DG} (hb : blkS S scope own vi li gs = true) (hi : VI .T X G tg iter fi) (T : LcT X G scope tg (own.map (·.2)) tf)
    (ht : InBlk X G S M k scope vi li gs fun X G => VTs X G ifs cf) (he : InBlk X G S M k scope vi li gs fun X G => VE .E X G elt ef)
    (hs : ∀ x, foldedSetIterable iter X.env x = pure x := by intro _; rfl) (hc : S.hot = false := by rfl) : VE .O X G (.ListComp elt [⟨tg, iter, ifs, 0⟩] scope pos) (eLc fi tf cf ef (own.map (·.2))) := by
  obtain ⟨g, T⟩ := T.ex
  exact ve_lc (B.calm hc) B.nd hi (B.bk (blkS_ok hb)) T (fun s H C cl fp gh => B.inB hc hb ht s H C cl fp gh) (fun s H C cl fp gh => B.inB hc hb he s H C cl fp gh) hs
/-- the name's store is the comprehension's own -/
def swB (S : Sc) (scope : Scope) (y : Str) (l1 l2 : Nat) : Bool := (match S.sc.kind with | .function => true | _ => false) && (match S.sc.names.lookup y with | some .local => true | _ => false) && (l1 == l2) && !(scope.names.any fun (n, k) => n == y && (k == .local || k == .cell))
theorem Bx.sw (B : Bx X G S M k) {elt : Expr} {gens : List Comprehension} {py : Pos} {l : Nat} (h : swB S scope y py.line pos.line = true) : X.env.scope.names.lookup y = some .local ∧ swapsWith (.ListComp elt gens scope pos) (some (.Name y py)) l X.env = pure true := by
  unfold swB at h
  simp only [Bool.and_eq_true] at h
  obtain ⟨⟨⟨h1, h2⟩, h3⟩, h4⟩ := h
  have e1 : X.env.scope.kind = .function := by
    rw [B.s]
    split at h1
    · next z => exact z
    · cases h1
  have e2 : X.env.scope.names.lookup y = some .local := by
    rw [B.s]
    split at h2
    · next z => exact z
    · cases h2
  refine ⟨e2, ?_⟩
  show (pure (X.env.blockKind == .function && X.env.kindOf y == some .local && py.line == (Expr.pos (.ListComp elt gens scope pos)).line && !(scope.names.any fun (n, k) => n == y && (k == .local || k == .cell))) : Sem Bool) = pure true
  have e3 : X.env.blockKind = .function := by unfold Env.blockKind; rw [e1]; rfl
  have e4 : X.env.kindOf y = some .local := e2
  have e5 : (py.line == (Expr.pos (.ListComp elt gens scope pos)).line) = true := h3
  rw [e3, e4, e5, h4]
  rfl
theorem Bx.lcSh (B : Bx X G S M k) {own : List (Str × Nat)} {vi li : List Nat} {gs : List Str} {tf : DG} {py spos : Pos} (i : Nat) (hb : blkS S scope own vi li gs = true) (hsw : swB S scope y py.line pos.line = true) (hi : VI .T X G tg iter fi) (T : LcT X G scope tg (own.map (·.2)) tf)
    (ht : InBlk X G S M k scope vi li gs fun X G => VTs X G ifs cf) (he : InBlk X G S M k scope vi li gs fun X G => VE .E X G elt ef) (h : S.N[i]? = some y := by rfl)
    (hs : ∀ x, foldedSetIterable iter X.env x = pure x := by intro _; rfl) (hc : S.hot = false := by rfl) : VS X G (.Assign [.Name y py] (.ListComp elt [⟨tg, iter, ifs, 0⟩] scope pos) spos) (sSh i (eLc fi tf cf ef (own.map (·.2)))) := by
  obtain ⟨g, T⟩ := T.ex
  obtain ⟨w1, w2⟩ := B.sw (scope := scope) (pos := pos) (elt := elt) (gens := [⟨tg, iter, ifs, 0⟩]) (l := spos.line) hsw
  exact vs_lcSh (B.calm hc) B.nd (B.hN h) w1 w2 hi (B.bk (blkS_ok hb)) T (fun s H C cl fp gh => B.inB hc hb ht s H C cl fp gh) (fun s H C cl fp gh => B.inB hc hb he s H C cl fp gh) hs
theorem Bx.lcOw (B : Bx X G S M k) {own : List (Str × Nat)} {vi li : List Nat} {gs : List Str} {tf : DG} {py spos : Pos} (i : Nat) (hb : blkS S scope own vi li gs = true) (hsw : swB S scope y py.line pos.line = true) (hi : VI .T X G tg iter fi) (T : LcT X G scope tg (own.map (·.2)) tf)
    (ht : InBlk X G S M k scope vi li gs fun X G => VTs X G ifs cf) (he : InBlk X G S M k scope vi li gs fun X G => VE .E X G elt ef) (h : S.N[i]? = some y := by rfl)
    (hs : ∀ x, foldedSetIterable iter X.env x = pure x := by intro _; rfl) (hc : S.hot = false := by rfl) : VS X G (.Assign [.Name y py] (.ListComp elt [⟨tg, iter, ifs, 0⟩] scope pos) spos) (sOw i (eLc fi tf cf ef (own.map (·.2)))) := by
  obtain ⟨g, T⟩ := T.ex
  obtain ⟨w1, w2⟩ := B.sw (scope := scope) (pos := pos) (elt := elt) (gens := [⟨tg, iter, ifs, 0⟩]) (l := spos.line) hsw
  exact vs_lcOw (B.calm hc) B.nd (B.hN h) w1 w2 hi (B.bk (blkS_ok hb)) T (fun s H C cl fp gh => B.inB hc hb ht s H C cl fp gh) (fun s H C cl fp gh => B.inB hc hb he s H C cl fp gh) hs
end
end DL

set_option Elab.async false
set_option linter.all false
set_option maxRecDepth 100000
set_option maxHeartbeats 4000000
/-! SetS: set(list of ints), sorted(set(list of ints)) of any size. The first lemma is HandS.SetFor's, turned from tuples to lists; the second HandS.Set's without its bound. -/
namespace L2
open PySem PySem.Spec PyProof.Rows
section
variable {P : Program} {w : World} {A : Around} {E : Value → Shared → Prop} {s : Shared} {a : Addr}
/-- a list that holds them all bounds how many lie in the set -/
theorem nodup_le {α : Type} : ∀ {xs L : List α}, xs.Nodup → (∀ x ∈ xs, x ∈ L) → xs.length ≤ L.length
  | [], L, _, _ => Nat.zero_le _
  | x :: xs, L, nd, h => by
    obtain ⟨n1, n2⟩ := List.nodup_cons.mp nd
    obtain ⟨A, B, e⟩ := List.append_of_mem (h x List.mem_cons_self)
    subst e
    have q := nodup_le (L := A ++ B) n2 fun y hy => by
      have z := h y (List.mem_cons_of_mem _ hy)
      rw [List.mem_append, List.mem_cons] at z
      rw [List.mem_append]
      rcases z with z | rfl | z
      · exact .inl z
      · exact absurd hy n1
      · exact .inr z
    simp only [List.length_append, List.length_cons] at q ⊢
    omega
theorem SetR.le {w : World} {h : Heap} {a : Addr} {S : Int → Bool} {n : Nat} (R : SetR w h a S n) {L : List Int} (hL : ∀ k, S k = true → k ∈ L) : n ≤ L.length := by
  obtain ⟨o, es, ep, t, ho, hex, hd, g, nd, hm, hb, hf, hn, hr, hl⟩ := R
  have q := nodup_le nd fun k hk => hL k ((hm k).mpr hk)
  rw [List.length_map, Array.length_toList, hn] at q
  exact q
theorem set_update_intsD {I : Addr} {fp wr : List Addr} {G : Array GenState → Array GenState → Prop} {n : Nat} {Pv : Nat → Value → Prop} {St : Nat → Shared → Prop} {R : Result → Shared → Prop}
    (W : WalksS P w A.in1 I fp wr G n Pv St) (S : Addr) (hSf : S ∉ fp) (ns : List Int) (hn : n = ns.length) (hbd : ∀ (h : Heap) (i c : Nat), SetR w h S (fun j => decide (j ∈ ns.take i)) c → c + 1 < scanBound) (hval : ∀ i v, Pv i v → ∃ k t, ns[i]? = some k ∧ v = .int k t) :
    ∀ (k i : Nat) (s : Shared), n - i = k → i ≤ n → St i s → (∃ c, c ≤ i ∧ SetR w s.heap S (fun j => decide (j ∈ ns.take i)) c) →
      (∀ s' c, Moved (S :: wr) G s s' → c ≤ n → SetR w s'.heap S (fun j => decide (j ∈ ns)) c → R (.ok (.ret .none)) s') →
      codeAny (model P w) A (.builtin "set.update.loop" ⟨[.ref S, .ref I], []⟩) R s := by
  have hSw : S ∉ wr := fun h => hSf (W.sub _ h)
  have hsub : ∀ b ∈ wr, b ∈ S :: wr := fun b hb => List.mem_cons_of_mem _ hb
  intro k
  induction k with
  | zero =>
    intro i s hk' hi hst ⟨c, hc, hS⟩ hR
    have hin : i = n := by omega
    subst hin
    refine codeAny_builtin F.entry_set_update_loop ?_
    rw [Around.under_plainId F.plain_set_update_loop _]
    show wpAny _ A.in1 (pyNext (.ref I) >>= _) _ _ s
    refine wpAny_bind (W.done s _ _ hst fun s' hm => ?_)
    show wpAny _ A.in1 (ret Value.none) _ _ s'
    have e : ns.take i = ns := List.take_of_length_le (by omega)
    rw [e] at hS
    exact wpAny_pure (hR s' c (hm.mono hsub) hc (hS.at fun o e => hm.heap S o hSw e))
  | succ k ih =>
    intro i s hk' hi hst ⟨c, hc, hS⟩ hR
    have hlt : i < n := by omega
    refine codeAny_builtin F.entry_set_update_loop ?_
    rw [Around.under_plainId F.plain_set_update_loop _]
    show wpAny _ A.in1 (pyNext (.ref I) >>= _) _ _ s
    refine wpAny_bind (W.item i s _ _ hlt hst fun v s' hP hst' hm => ?_)
    obtain ⟨z, t, hz, rfl⟩ := hval i v hP
    have hS' : SetR w s'.heap S (fun j => decide (j ∈ ns.take i)) c := hS.at fun o e => hm.heap S o hSw e
    show wpAny _ A.in1 (holding [Value.int z t] (setAdd S (.int z t)) >>= _) _ _ s'
    refine wpAny_bind (wpAny_holding ?_)
    unfold setAdd
    refine wpAny_holding ?_
    refine wpAny_bind ((intKind P w).pyHash (k := z) (intKind_is _ _ _ _) ?_)
    refine setR_add_hashed (s := { s' with toks := s'.toks + 1 }) hS' (hbd _ _ _ hS') fun h' hsb hS2 => ?_
    have hS3 : SetR w h' S (fun j => decide (j ∈ ns.take (i + 1))) (if decide (z ∈ ns.take i) = true then c else c + 1) := hS2.congr fun j => by
      rw [List.take_add_one, hz]
      simp [List.mem_append]
    have hc3 : (if decide (z ∈ ns.take i) = true then c else c + 1) ≤ i + 1 := by
      split <;> omega
    refine wpAny_pure ⟨plainId_quiet F.plain_set_update_loop _, ih (i + 1) _ (by omega) hlt (W.frame _ s' _ _ hst' (Nat.le_succ _) fun b hb o e => ?_) ⟨_, hc3, hS3⟩ fun s'' c2 hm'' hc'' hS'' => ?_⟩
    · rw [hsb.2 b (fun h : b = S => hSf (by rw [← h]; exact hb))]; exact e
    · refine hR s'' c2 (Moved.trans W.gtrans ((hm.mono hsub).then_heap (Nat.le_succ _) fun b o hb e => ?_) hm'') hc'' hS''
      rw [hsb.2 b (fun h : b = S => hb (by rw [h]; exact List.mem_cons_self))]; exact e
set_option maxRecDepth 100000 in

theorem call_set_lstI {l : Addr} {items : Array Value} (ns : List Int) {Q : Value → Shared → Prop} (hh : A.handled = none) (hl : s.heap.IsList l items) (hit : IntsAre items.toList ns) (hb : ∃ L : List Int, (∀ z ∈ ns, z ∈ L) ∧ L.length + 1 < scanBound)
    (h : ∀ (h' : Heap) (tk c : Nat), SetR w h' s.heap.objs.size (fun j => decide (j ∈ ns)) c → c ≤ ns.length → (∀ b o, s.heap.get? b = some o → h'.get? b = some o) → Q (.ref s.heap.objs.size) { s with heap := h', toks := tk }) :
    wpAny (model P w) A (call (.type "set") [.ref l]) Q E s := by
  have hisz : items.size = ns.length := by
    have q := IntsAre.length hit
    rw [Array.length_toList] at q
    exact q
  obtain ⟨c, tl, hmro⟩ := F.called_set.mro
  have hmade := F.called_set.made
  have hsub := F.called_set.sub
  refine wpAny_call (codeAny_of_tree ?_)
  show wpAny _ _ (callAny (.type "set") _) _ _ _
  refine wpAny_pure ⟨Code.quiet_builtin _ (by decide +kernel), codeAny_builtin F.entry_type_call ?_⟩
  rw [Around.under_plain (weight_type_call_type "set" [.ref l] []) rfl]
  have h1 := F.called_set.notType
  have h2 := F.called_set.canCreate
  have hct := F.typeCall_set_1 (.ref l)
  repeat (any_goals (first | assumption | wp_step))

  refine codeAny_mono (code_set_led1 (.ref l) (E := E) (Q₁ := fun obj s₁ => obj = .ref s.heap.objs.size ∧ s₁ = { s with heap := s.heap.push { cls := .type "set", dict := none, data := .set #[] 0 (.fresh 0 0 (!w.params.followText "set-order")) } }) ⟨rfl, rfl⟩) fun r s₁ hr => ?_
  cases r with
  | error e => exact hr
  | ok fl =>
    cases fl with
    | ret obj =>
      obtain ⟨rfl, rfl⟩ := hr
      have hS : (s.heap.push { cls := .type "set", dict := none, data := .set #[] 0 (.fresh 0 0 (!w.params.followText "set-order")) }).get? s.heap.objs.size = some { cls := .type "set", dict := none, data := .set #[] 0 (.fresh 0 0 (!w.params.followText "set-order")) } := Heap.get?_push_size _ rfl
      have hT : Shared.TypeIs { s with heap := s.heap.push { cls := .type "set", dict := none, data := .set #[] 0 (.fresh 0 0 (!w.params.followText "set-order")) } } (.ref s.heap.objs.size) "set" := ⟨_, hS, rfl⟩
      have hli := F.called_set.init.lookup
      have hbi := F.called_set.init.bind (.ref s.heap.objs.size)
      repeat (any_goals (first | assumption | wp_step))

      refine codeAny_mono (codeAny_call_builtin (R := wants (fun r s₂ => r = .none ∧ ∃ h' tk c, s₂ = { s with heap := h', toks := tk } ∧ SetR w h' s.heap.objs.size (fun j => decide (j ∈ ns)) c ∧ c ≤ ns.length ∧
          (∀ b o, s.heap.get? b = some o → h'.get? b = some o)) E) F.called_set.init.plain F.entry_set_init (check_set_init_1 hT ?_)) fun r₂ s₂ hr₂ => ?_
      · obtain ⟨ol, hol, hcl, nl, hdl⟩ := hl
        obtain ⟨ocls, odict, odata, oslots⟩ := ol
        simp only at hcl hdl
        subst hcl; subst hdl
        have hol' : (s.heap.push { cls := .type "set", dict := none, data := .set #[] 0 (.fresh 0 0 (!w.params.followText "set-order")) }).get? l = some { cls := .type "list", dict := odict, data := .seq items nl, slots := oslots } := Heap.get?_push_of_some _ hol
        have hsls := F.sub_list_set
        have hslf := F.sub_list_frozenset
        have hne : (Value.type "list" == Value.type "dict") = false := by decide
        have hl1 : (s.heap.push { cls := .type "set", dict := none, data := .set #[] 0 (.fresh 0 0 (!w.params.followText "set-order")) }).IsList l items := ⟨_, hol', rfl, nl, rfl⟩
        unfold Builtin.«set.__init__» noKeywords Builtin.Frozenset.updateFrom
        generalize hPI : pyIter = PI
        wp_walk
        subst hPI

        refine wpAny_pyIter_list hl1 ?_
        refine wpAny_bind (wpAny_runValue ?_)
        have hlS : l < s.heap.objs.size := Heap.lt_size hol
        have hh3 : A.in1.in1.in1.handled = none := by simp [hh]
        have hz1 : (s.heap.push { cls := .type "set", dict := none, data := .set #[] 0 (.fresh 0 0 (!w.params.followText "set-order")) }).objs.size = s.heap.objs.size + 1 := Heap.size_push ..
        have hneI : l ≠ (s.heap.push { cls := .type "set", dict := none, data := .set #[] 0 (.fresh 0 0 (!w.params.followText "set-order")) }).objs.size := by
          rw [Heap.size_push]; exact Nat.ne_of_lt (Nat.lt_succ_of_lt hlS)
        have hSf : s.heap.objs.size ∉ [(s.heap.push { cls := .type "set", dict := none, data := .set #[] 0 (.fresh 0 0 (!w.params.followText "set-order")) }).objs.size, l] := by
          rw [Heap.size_push]; simp only [List.mem_cons, List.mem_singleton, List.not_mem_nil, or_false, not_or]
          exact ⟨Nat.ne_of_lt (Nat.lt_succ_self _), Nat.ne_of_gt hlS⟩
        have hval : ∀ (i : Nat) (v : Value), items[i]? = some v → ∃ k t, ns[i]? = some k ∧ v = .int k t := fun i v hv => by
          have hi : i < ns.length := by rw [← hisz]; exact (Array.getElem?_eq_some_iff.mp hv).1
          obtain ⟨t, e⟩ := PyProof.Rows.IntsAre.int_at hit i v (by rw [Array.getElem?_toList]; exact hv)
          refine ⟨ns[i], t, List.getElem?_eq_getElem hi, ?_⟩
          rw [e, List.getD_eq_getElem?_getD, List.getElem?_eq_getElem hi] <;> rfl
        refine set_update_intsD ((Walks.list hh3 _ l hneI items).toS) s.heap.objs.size
          hSf ns hisz (fun h i c r => by
            obtain ⟨L, l1, l2⟩ := hb
            exact Nat.lt_of_le_of_lt (Nat.succ_le_succ (r.le fun k hk => l1 k (List.mem_of_mem_take (of_decide_eq_true hk)))) l2) hval (items.size - 0) 0 _ (by omega) (Nat.zero_le _)
          ⟨⟨_, Heap.get?_push_size _ rfl, rfl, rfl⟩, (hl1.push _)⟩ ?hS0 ?hR
        case hS0 =>
          have hget : ((s.heap.push { cls := .type "set", dict := none, data := .set #[] 0 (.fresh 0 0 (!w.params.followText "set-order")) }).push { cls := .type "list_iterator", data := .fields #[.ref l, .int 0 0] }).get? s.heap.objs.size
              = some { cls := .type "set", dict := none, data := .set #[] 0 (.fresh 0 0 (!w.params.followText "set-order")) } := Heap.get?_push_of_some _ hS
          exact ⟨0, Nat.le_refl 0, setR_new_at hget⟩
        case hR =>
          intro s' c' hm hc' hS'
          obtain ⟨h', g2, d', tk', os'⟩ := s'
          have eg : g2 = s.gens := hm.gens
          have ed : d' = s.drawn := hm.drawn
          have eo : os' = s.os := hm.os
          subst eg; subst ed; subst eo
          show wpAny _ _ _ _ _ _
          refine wpAny_pure ?_
          show wpAny _ _ (ret Value.none) _ _ _
          rw [hisz] at hc'
          refine wpAny_pure ⟨rfl, h', tk', c', rfl, hS', hc', fun b o e => ?_⟩
          have hb0 : b < s.heap.objs.size := Heap.lt_size e
          have hb1 : b ≠ s.heap.objs.size := Nat.ne_of_lt hb0
          have hb2 : b ≠ (s.heap.push { cls := .type "set", dict := none, data := .set #[] 0 (.fresh 0 0 (!w.params.followText "set-order")) }).objs.size := by
            rw [Heap.size_push]; exact Nat.ne_of_lt (Nat.lt_succ_of_lt hb0)
          exact hm.heap b o (by simp only [List.mem_cons, List.mem_singleton, List.not_mem_nil, or_false, not_or]; exact ⟨hb1, hb2⟩) (Heap.get?_push_of_some _ (Heap.get?_push_of_some _ e))

      · cases r₂ with
        | error e => exact hr₂
        | ok fl₂ =>
          cases fl₂ with
          | ret r =>
            obtain ⟨rfl, h', tk, c', rfl, hS', hc', hk'⟩ := hr₂
            repeat (any_goals (first | assumption | wp_step))
            exact h _ _ _ hS' hc' hk'
          | _ => exact hr₂.elim
    | _ => exact hr.elim

end
section
variable {P : Program} {w : World} {A : Around} {E : Value → Shared → Prop} {s : Shared} {a : Addr}
theorem sorted_setO {S : Int → Bool} {n : Nat} {Q : Value → Shared → Prop} (R : SetR w s.heap a S n) (hh : A.handled = none)
    (hQ : ∀ s' p (out : Array Value) (c : Nat) (ns : List Int), (∀ b o, s.heap.get? b = some o → s'.heap.get? b = some o) → s'.gens = s.gens → s'.os = s.os → s.heap.objs.size ≤ p →
      s'.heap.get? p = some (seqObj "list" out c) → IntsAre out.toList ns → ns.Pairwise (· < ·) → (∀ k, k ∈ ns ↔ S k = true) → ns.length = n → Q (.ref p) s') :
    wpAny (model P w) A (call (.builtin "sorted") [.ref a]) Q E s := by
  obtain ⟨o, es, ep, t, ho, hex, hd, g, nd, hm, hb, hf, hn, hr, hl⟩ := R
  refine Calls.call_function_entry kind_sorted plain_sorted entry_sorted (args_sorted1 _) ?_
  unfold Builtin.«sorted»
  refine wpAny_bind (m := checkCount "sorted" 1 1 _) (wpAny_pure ?_)
  refine wpAny_bind (collect_set (A := A.in1) hh ⟨o, ho, hex.1, hd⟩ hf hb hr hl fun s1 vs k1 hz g1 o1 pm => ?_)
  have hvl : vs.length = n := by rw [pm.length_eq, List.length_map, Array.length_toList]; exact hn
  have hI : IntsAre vs (vs.map SrtO.iv) := SrtO.ints_iv fun v hv => by
    obtain ⟨e, he, q⟩ := List.mem_map.mp (pm.mem_iff.mp hv)
    obtain ⟨k, tk, h1, _⟩ := g e he
    exact ⟨k, tk, by rw [← q]; exact h1⟩
  have pk : (vs.map SrtO.iv).Perm (es.toList.map keyOf) := by
    have q := pm.map SrtO.iv
    rw [List.map_map] at q
    have ee : es.toList.map (SrtO.iv ∘ fun x => x.2) = es.toList.map keyOf := List.map_congr_left fun e he => by
      obtain ⟨k, tk, h1, _⟩ := g e he
      show SrtO.iv e.2 = keyOf e
      obtain ⟨e1, e2⟩ := e
      cases h1
      rfl
    rw [ee] at q
    exact q
  have hsz : vs.length ≤ sizeLine := by
    rw [hvl, sizeLine_eq]
    unfold scanBound at hb
    omega
  refine wpAny_bind (wpAny_newList ?_ hsz)
  have hoL : (s1.heap.push (seqObj "list" vs.toArray 0)).get? s1.heap.objs.size = some (seqObj "list" vs.toArray 0) := Heap.get?_push_size _ rfl
  refine wpAny_bind (wpAny_holding (wpAny_call_entry slot_list_sort ⟨_, hoL, rfl⟩ entry_list_sort (SrtO.list_sort_ord SrtO.swo_int hoL hsz (fun h2 => SrtO.ints_sortable hI h2) fun out a1 a2 => ⟨_, rfl, ?_⟩) (args_list_sort _)))
  obtain ⟨c, hc⟩ := sortedHeap_at (vs := vs) (out := out.toArray) hoL
  obtain ⟨b1, b2, b3⟩ := SrtO.ints_out hI a1 a2
  have pn : (out.map SrtO.iv).Perm (es.toList.map keyOf) := b2.trans pk
  refine wpAny_pure ⟨_, rfl, hQ _ s1.heap.objs.size out.toArray c (out.map SrtO.iv) (fun b u e => ?_) g1 o1 hz hc b1 (lt_of_le_nodup _ b3 (pn.nodup_iff.mpr nd)) (fun k => by rw [pn.mem_iff, ← hm k]) ?_⟩
  · have q := k1 b u e
    have hlt := Heap.lt_size q
    show (sortedHeap (s1.heap.push (seqObj "list" vs.toArray 0)) s1.heap.objs.size vs out.toArray).get? b = some u
    rw [sortedHeap_old (Nat.ne_of_lt hlt) (by rw [size_push']; exact Nat.lt_succ_of_lt hlt)]
    exact Heap.get?_push_of_some _ q
  · rw [pn.length_eq, List.length_map, Array.length_toList]; exact hn
end

/-- sorted(set(xs)), xs a list of ints -/
def tSorSet (K : PySem.W.Frag) (ta : TE) : TE := fun σ H Q => ta σ H fun x H1 => ∃ (a : Addr) (ns : List Int), x = V.ref a ∧ SqL K H1 a (ns.map V.int) ∧ (∃ L : List Int, (∀ z ∈ ns, z ∈ L) ∧ L.length + 1 < scanBound) ∧
  ∀ (ns' : List Int) (p : Addr), ns'.Pairwise (· < ·) → (∀ k, k ∈ ns' ↔ k ∈ ns) → H1 p = none → Q (.ref p) (upd H1 p (.lst (ns'.map V.int)))
theorem pe_sorSet {X : Cx} {a : Expr} {ta : TE} {p p2 q pos : Pos} (hc : X.calm = true) (hg : Gl X "sorted") (hm : X.mg "sorted" = none) (hg2 : Gl X "set") (hm2 : X.mg "set" = none) (ha : PE X a ta)
    (na : starEach [a] X.env = (false, eval a X.env) :: starEach [] X.env := by rfl) : PE X (.Call (.Name "sorted" p) [.Call (.Name "set" p2) [a] [] q] [] pos) (tSorSet X.K ta) := by
  refine ⟨fun pins s σ H Q I h => ?_⟩
  refine Call_ (ld_blt I hg hm PyProof.Rows.boot_sorted ?_)
  refine PyProof.Rows.callWith_builtin1 (PyProof.Rows.args_cons ?_ rfl) rfl rfl
  refine Call_ (ld_blt I hg2 hm2 PyProof.Rows.boot_set ?_)
  refine PyProof.Rows.callWith_type1 (PyProof.Rows.args_cons (thn (ha.run pins s σ H _ I h) fun v s1 ⟨x, H1, I1, r1, q1⟩ => PyProof.Rows.args_nil ?_) na) na rfl
  obtain ⟨l, ns, rfl, hq, hb, q1⟩ := q1
  cases r1
  obtain ⟨its, r, pl, hz⟩ := I1.list hq
  refine call_set_lstI ns (I1.ok.hd hc) pl.isList (ints_of_vals r) hb fun h' tk c hS hcn hk => ?_
  refine PyProof.Rows.args_nil ?_
  refine sorted_setO (s := { s1 with heap := h', toks := tk }) hS (I1.ok.hd hc) fun s' p out cc ns' k g o hp hgp hi hs hmem hl => ?_
  have hk2 : ∀ b u, s1.heap.get? b = some u → s'.heap.get? b = some u := fun b u e => k b u (hk b u e)
  have hle : s1.heap.objs.size ≤ p := by
    obtain ⟨oS, _, _, _, hoS, _⟩ := hS
    exact Nat.le_trans (Nat.le_of_lt (Heap.lt_size hoS)) hp
  have hn : H1 p = none := I1.hok.fresh hle
  have hlen : (ns'.map V.int).length ≤ sizeLine := by
    rw [List.length_map, hl]
    obtain ⟨L, l1, l2⟩ := hb
    have q := hS.le (L := L) fun k hk => l1 k (of_decide_eq_true hk)
    unfold scanBound at l2
    rw [sizeLine_eq]
    omega
  have J : Inv X pins σ (upd H1 p (.lst (ns'.map V.int))) { s1 with heap := s'.heap, gens := s'.gens, drawn := s'.drawn, toks := s'.toks } :=
    I1.call (ch := []) (Un.laid hk2 hle hn) (I1.hok.laid hk2 hle ⟨hlen, out.toList, cc, vals_of_ints hi, hgp⟩) (by rw [g]; exact I1.bare) (fun _ z => nomatch z)
  have e : s' = { s1 with heap := s'.heap, gens := s'.gens, drawn := s'.drawn, toks := s'.toks } := by
    obtain ⟨a1, a2, a3, a4, a5⟩ := s'
    have o : a5 = s1.os := o
    subst o
    rfl
  rw [e]
  exact ⟨.ref p, _, J, rfl, q1 ns' p hs (fun k => by rw [hmem k, decide_eq_true_eq]) hn⟩
end L2

set_option Elab.async false
set_option linter.all false
set_option maxRecDepth 100000
set_option maxHeartbeats 2000000
/-! TryN: several except clauses, each with or without a name; HandS.ExcCtx's two rules joined. -/
namespace L2N
open PySem PySem.Spec PyProof.Rows L2
def wManyN (K : PySem.W.Frag) (Wout : WX) (D : Ends) : List (Value × Option Nat × (Addr → Value → Option Addr → TS)) → WX
  | [] => Wout
  | (c, none, ts) :: r => fun cls d σ H => ∃ b, PySem.W.exmOne K cls c = some b ∧ (b = true → ∀ a, H a = none → ts a cls d D σ H) ∧ (b = false → wManyN K Wout D r cls d σ H)
  | (c, some i, ts) :: r => fun cls d σ H => ∃ b, PySem.W.exmOne K cls c = some b ∧
    (b = true → ∀ a, H a = none → ts a cls d { nx := fun σ' H' => D.nx (σ'.set i none) H', rt := D.rt, bk := fun σ' H' => D.bk (σ'.set i none) H', ct := fun σ' H' => D.ct (σ'.set i none) H' } (σ.set i (some (.ref a))) H) ∧ (b = false → wManyN K Wout D r cls d σ H)
inductive HdsN (X : Cx) : List ExceptHandler → List (Value × Option Nat × (Addr → Value → Option Addr → TS)) → Prop
  | nil : HdsN X [] []
  | cons {x : Str} {c : Value} {ts : Addr → Value → Option Addr → TS} {b₀ : Stmt} {suite : List Stmt} {np pos' : Pos} {hds : List ExceptHandler} {l : List (Value × Option Nat × (Addr → Value → Option Addr → TS))} (hc : Names X x c)
      (hsu : ∀ (a : Addr) (oe : Obj) (cls : Value) (d : Option Addr) (pn : List (Addr × Obj)), Zn cls d oe → (∃ vs, oe.data = .fields vs) → PSs (X.suite a ((a, oe) :: pn)) (b₀ :: suite) (ts a cls d)) (r : HdsN X hds l) :
      HdsN X (.ExceptHandler (some (.Name x np)) none (b₀ :: suite) pos' :: hds) ((c, none, ts) :: l)
  | consN {x n : Str} {i : Nat} {c : Value} {ts : Addr → Value → Option Addr → TS} {b₀ : Stmt} {suite : List Stmt} {np pos' : Pos} {hds : List ExceptHandler} {l : List (Value × Option Nat × (Addr → Value → Option Addr → TS))} (hc : Names X x c)
      (hi : X.N[i]? = some n) (hln : X.env.kindOf n = some .local)
      (hsu : ∀ (a : Addr) (oe : Obj) (cls : Value) (d : Option Addr) (pn : List (Addr × Obj)), Zn cls d oe → (∃ vs, oe.data = .fields vs) → PSs (X.suite a ((a, oe) :: pn)) (b₀ :: suite) (ts a cls d)) (r : HdsN X hds l) :
      HdsN X (.ExceptHandler (some (.Name x np)) (some n) (b₀ :: suite) pos' :: hds) ((c, some i, ts) :: l)
section
variable {X : Cx} {body : List Stmt} {h₀ : ExceptHandler} {hds : List ExceptHandler} {l : List (Value × Option Nat × (Addr → Value → Option Addr → TS))} {pos : Pos} {tb : WX → TS} {Wout : WX}
theorem ps_try_manyN (hs : X.stack = X.env :: X.outer) (hf : X.env.frame = some X.env.locals) (hN : X.N.Nodup) (tk : Takes X Wout)
    (hb : ∀ (W : WX) (pn : List (Addr × Obj)) (xe : Value → Shared → Prop), Takes (X.tr pn xe) W → PassesOwn (model X.prog X.w) X.A X.env xe → PSs (X.tr pn xe) body (tb W))
    (hh : HdsN X (h₀ :: hds) l) : PS X (.Try body (h₀ :: hds) [] [] pos) (fun D σ H => tb (wManyN X.K Wout D l) D σ H) := by
  refine ⟨fun pins s σ H D I h => ?_⟩
  have ok := I.ok
  have hfr : X.A.frames = some (X.env :: X.outer) := by rw [ok.frames, hs]
  refine wpAny_Try_except ?_
  refine wpAny_mono ((hb (wManyN X.K Wout D l) (X.pn ++ pins) (fun e s₁ => wpAny (model X.prog X.w) X.A (noteFrame e X.env) (fun _ s₂ => wpAny (model X.prog X.w) X.A (setFlight e none) (fun _ s₃ =>
    wpAny (model X.prog X.w) X.A (handleBy e X.env (h₀ :: hds)) (SP X pins D) X.xe s₃) X.xe s₂) X.xe s₁) (fun u s' xx => ?_) PassesOwn.looking).run [] s σ H D (I.toTry _) h) (fun f s1 hsp => ?_) (fun e s1 he => he)
  · -- the catch
    obtain ⟨a, B, sI, pins', σ', H', cls, d, rfl, J', nb, up, sky, na, os, ag, w⟩ := xx
    have J : Inv X pins σ' H' sI := J'.ofTry ok
    have sky' : Sky B (X.env :: X.outer) a (Zn cls d) X.env.locals s'.heap := by rw [← hs]; exact sky
    show wpAny (model X.prog X.w) X.A (noteFrame (.ref a) X.env) _ _ _
    refine Sky.land Zn.steady hfr hf sky' fun h3 fl3 up3 => ?_
    have J3 : Inv X pins σ' H' { s' with heap := h3 } := J.landed nb fl3.1 (up.trans up3) os ag
    obtain ⟨oe3, vs3, he3, hz3, hd3⟩ := fl3.there
    have notFr : ∀ {h : Heap} {o : Obj} {vs : Array Value}, h.FunFrames B (X.env :: X.outer) → h.get? a = some o → o.data = .fields vs → a ∉ frs (X.env :: X.outer) := fun {h o vs} ff e dd hm => by
      obtain ⟨_, o', e', hnf⟩ := ff.mem hm
      rw [e] at e'; cases e'
      exact hnf _ dd
    have nfr := notFr fl3.2.2.1 he3 hd3
    have nL : a ≠ X.env.locals := fun z => nfr (List.mem_filterMap.mpr ⟨X.env, List.mem_cons_self, by rw [hf, z]⟩)
    have nF : a ∉ X.fs := fun hm => by
      obtain ⟨e, he, q⟩ := List.mem_filterMap.mp hm
      exact nfr (List.mem_filterMap.mpr ⟨e, List.mem_cons_of_mem _ he, q⟩)
    have S3 := J3.suite he3 hd3 na nL nF
    have go : ∀ {hds' : List ExceptHandler} {l' : List (Value × Option Nat × (Addr → Value → Option Addr → TS))}, HdsN X hds' l' → wManyN X.K Wout D l' cls d σ' H' →
        wpAny (model X.prog X.w) X.A (handleBy (.ref a) X.env hds') (SP X pins D) X.xe { s' with heap := h3 } := by
      intro hds' l' hk
      induction hk with
      | nil =>
        intro w
        refine wpAny_handleBy_nil ?_
        obtain ⟨k1, k2, k3, oe, vs, T, oT, ts', he, hz, hd, h1, hr⟩ := id fl3
        unfold PySem.passOn
        refine wpAny_bind (wpAny_field he hd h1 ?_)
        rw [if_neg (show ¬ ((Value.ref T == Value.none) = true) from by simp)]
        have fin : wpAny (model X.prog X.w) X.A (setFlight (.ref a) X.env.frame) (fun _ s4 => wpAny (model X.prog X.w) X.A (throw (.ref a) : Sem Flow) (SP X pins D) X.xe s4) X.xe { s' with heap := h3 } := by
          rw [hf]
          refine HandSPX.setFlight_upZ fl3 fun h4 hh4 up4 => wpAny_throw (tk _ _ ?_)
          exact ⟨a, B, sI, pins, σ', H', cls, d, rfl, J, nb, (up.trans up3).trans up4, .inr (.inr (by rw [hs]; exact hh4)), na, os, ag, w⟩
        first
          | exact wpAny_bind (wpAny_pure (wpAny_bind fin))
          | exact wpAny_bind fin
      | @cons x c ts b₀ suite np pos' hds2 l2 hc hsu r ih =>
        intro w
        obtain ⟨b, hb1, hyes, hno⟩ := w
        refine wpAny_handleBy_cons (codeAny_handlers_test ?_) (by intro q; cases q)
        have LT : PySem.W.Looks (model X.prog X.w) h3 (typeOf (.ref a)) cls := fun A Q E s k q => wpAny_typeOf_ref (k _ _ he3) (by rw [hz3.1]; exact q)
        have LM := PySem.W.exm_one (M := model X.prog X.w) (J3.kIn) LT hb1
        have test : ∀ {Q : Value → Shared → Prop} {E : Value → Shared → Prop}, Q c { s' with heap := h3 } → wpAny (model X.prog X.w) (X.A.mark (some (.ref a))) (eval (.Name x np) X.env) Q E { s' with heap := h3 } := fun {Q E} q => by
          obtain ⟨hg, hdbg, hm | ⟨hm, hv, hnn⟩⟩ := hc
          · exact ld_glob (X := X.suite a ((a, oe3) :: (X.pn ++ pins))) S3 hg hm q hdbg
          · exact ld_blt (X := X.suite a ((a, oe3) :: (X.pn ++ pins))) S3 hg hm hv q hnn hdbg
        refine test (LM.here ?_)
        cases b with
        | true =>
          refine codeAny_handlers_suite ?_
          refine HandSPX.lands_againZ fl3 fun h4 fl4 up4 => ?_
          have J4 : Inv X pins σ' H' { s' with heap := h4 } := J.landed nb fl4.1 ((up.trans up3).trans up4) os ag
          obtain ⟨oe4, vs4, he4, hz4, hd4⟩ := fl4.there
          have S4 := J4.suite he4 hd4 na nL nF
          refine wpAny_mono ((hsu a oe4 cls d (X.pn ++ pins) hz4 ⟨_, hd4⟩).run [] _ _ H' _ S4 (hyes rfl a na)) (fun f s6 hsp => ?_) (fun _ _ z => False.elim z)
          cases f with
          | next =>
            obtain ⟨σ6, H6, S6, q6⟩ := hsp
            exact ⟨_, _, S6.unsuite ok, q6⟩
          | brk =>
            obtain ⟨σ6, H6, S6, q6⟩ := hsp
            exact ⟨_, _, S6.unsuite ok, q6⟩
          | cont =>
            obtain ⟨σ6, H6, S6, q6⟩ := hsp
            exact ⟨_, _, S6.unsuite ok, q6⟩
          | ret u =>
            obtain ⟨v6, σ6, H6, S6, r6, q6⟩ := hsp
            exact ⟨_, _, _, S6.unsuite ok, r6, q6⟩
        | false =>
          show wpAny _ X.A (handleBy (.ref a) X.env hds2) _ _ _
          exact ih (hno rfl)
      | @consN x n i c ts b₀ suite np pos' hds2 l2 hc hi hln hsu r ih =>
        intro w
        obtain ⟨b, hb1, hyes, hno⟩ := w
        refine wpAny_handleBy_cons (codeAny_handlers_test ?_) (by intro q; cases q)
        have LT : PySem.W.Looks (model X.prog X.w) h3 (typeOf (.ref a)) cls := fun A Q E s k q => wpAny_typeOf_ref (k _ _ he3) (by rw [hz3.1]; exact q)
        have LM := PySem.W.exm_one (M := model X.prog X.w) (J3.kIn) LT hb1
        have test : ∀ {Q : Value → Shared → Prop} {E : Value → Shared → Prop}, Q c { s' with heap := h3 } → wpAny (model X.prog X.w) (X.A.mark (some (.ref a))) (eval (.Name x np) X.env) Q E { s' with heap := h3 } := fun {Q E} q => by
          obtain ⟨hg, hdbg, hm | ⟨hm, hv, hnn⟩⟩ := hc
          · exact ld_glob (X := X.suite a ((a, oe3) :: (X.pn ++ pins))) S3 hg hm q hdbg
          · exact ld_blt (X := X.suite a ((a, oe3) :: (X.pn ++ pins))) S3 hg hm hv q hnn hdbg
        refine test (LM.here ?_)
        cases b with
        | true =>
          refine codeAny_handlers_suite_as ?_
          refine HandSPX.lands_againZ fl3 fun h4 fl4 up4 => ?_
          have J4 : Inv X pins σ' H' { s' with heap := h4 } := J.landed nb fl4.1 ((up.trans up3).trans up4) os ag
          obtain ⟨oe4, vs4, he4, hz4, hd4⟩ := fl4.there
          have S4 := J4.suite he4 hd4 na nL nF
          refine store_ok (X := X.suite a ((a, oe4) :: (X.pn ++ pins))) (v := .ref a) S4 hN hi (.inl hln) rfl (fun s5 S5 => ?_) (.inr hln)
          refine wpAny_mono ((hsu a oe4 cls d (X.pn ++ pins) hz4 ⟨_, hd4⟩).run [] s5 _ H' _ S5 (hyes rfl a na)) (fun f s6 hsp => ?_) (fun _ _ z => False.elim z)
          have end_ : ∀ {σ6 : St} {H6 : Hp} {Q : Shared → Prop}, Inv (X.suite a ((a, oe4) :: (X.pn ++ pins))) [] σ6 H6 s6 → (∀ s7, Inv X pins (σ6.set i none) H6 s7 → Q s7) →
              wpAny (model X.prog X.w) X.A (do bindName X.env n .none; unbindBehindTheSuite X.env n pos') (fun _ s7 => Q s7) X.xe s6 := fun {σ6 H6 Q} S6 hq => gone_ok (S6.unsuite ok) hN hi hln hq
          cases f with
          | next =>
            obtain ⟨σ6, H6, S6, q6⟩ := hsp
            exact end_ S6 fun s7 J7 => ⟨_, _, J7, q6⟩
          | brk =>
            obtain ⟨σ6, H6, S6, q6⟩ := hsp
            exact end_ S6 fun s7 J7 => ⟨_, _, J7, q6⟩
          | cont =>
            obtain ⟨σ6, H6, S6, q6⟩ := hsp
            exact end_ S6 fun s7 J7 => ⟨_, _, J7, q6⟩
          | ret u =>
            obtain ⟨v6, σ6, H6, S6, r6, q6⟩ := hsp
            exact end_ S6 fun s7 J7 => ⟨_, _, _, J7, r6, q6⟩
        | false =>
          show wpAny _ X.A (handleBy (.ref a) X.env hds2) _ _ _
          exact ih (hno rfl)
    exact go hh w
  · cases f with
    | next =>
      obtain ⟨σ', H', J', q⟩ := hsp
      exact wpAny_execs_nil ⟨σ', H', J'.ofTry ok, q⟩
    | brk =>
      obtain ⟨σ', H', J', q⟩ := hsp
      exact ⟨σ', H', J'.ofTry ok, q⟩
    | cont =>
      obtain ⟨σ', H', J', q⟩ := hsp
      exact ⟨σ', H', J'.ofTry ok, q⟩
    | ret u =>
      obtain ⟨v, σ', H', J', r, q⟩ := hsp
      exact ⟨v, σ', H', J'.ofTry ok, r, q⟩

end
end L2N

set_option Elab.async false
set_option linter.all false
set_option maxRecDepth 100000
set_option maxHeartbeats 4000000
/-! DL11: try, isinstance, sorted, dicts. -/
namespace DL
open PySem PySem.Spec L2
/-! ### try -/
abbrev Gc.tr (G : Gc) (ep : Ep) (Wx : WX) (hs : List (D × V)) : Gc := { G with ep := ep, W := Wx, hs0 := hs ++ G.hs0 }
section
variable {X : Cx} {G : Gc} {S : Sc} {M : MGd} {k : Nat} {hs : List (D × V)} {σ : St} {H : Hp} {ds : DSt} {c : Nat}
theorem StR.toTr {ep : Ep} {Wx : WX} (S : StR G hs σ H ds c) : StR (G.tr ep Wx hs) [] σ H ds c := ⟨S.same, S.winv, S.len, S.sh, S.ow, S.apart, S.held, S.ghd⟩
theorem StR.ofTr {ep : Ep} {Wx : WX} {hd : List (D × V)} (S : StR (G.tr ep Wx hs) hd σ H ds c) : StR G hs σ H ds c := ⟨S.same, S.winv, S.len, S.sh, S.ow, S.apart, fun q hq => S.held q (List.mem_append_right _ hq), S.ghd⟩
theorem EndsOk.toTr {ep : Ep} {Wx : WX} {K : DK} {E : Ends} (h : EndsOk G hs K E) : EndsOk (G.tr ep Wx hs) [] K E := ⟨fun σ H ds c S q => h.nx σ H ds c S.ofTr q, fun σ H ds c v d S r q => h.rt σ H ds c v d S.ofTr r q, fun σ H ds c S q => h.bk σ H ds c S.ofTr q, fun σ H ds c S q => h.ct σ H ds c S.ofTr q⟩
/-- the exception that a suite holds, of the class named x -/
structure Pin (X : Cx) (ca : Str → Addr) (x : Str) (a : Addr) : Prop where
  ex : ∃ oe, (a, oe) ∈ X.pn ∧ L2N.Zn (.ref (ca x)) none oe ∧ ∃ vs, oe.data = .fields vs
/-- a clause: its class, its name's slot, its suite of the class that came -/
structure Cl where
  cls : Str
  i : Option Nat
  g : Str → Addr → DS
def hdl (sub : Str → Str → Bool) (ep : Ep) (K : DK) : List Cl → Str → DSt → Nat → Prop
  | [], x, ds, c => ep x ds c
  | ⟨y, o, g⟩ :: r, x, ds, c => if sub x y = true then (match o with
      | none => ∀ a, g x a K ds c
      | some i => ∀ a, g x a { nx := fun ds' c' => K.nx (ds'.set i .un) c', rt := K.rt, bk := fun ds' c' => K.bk (ds'.set i .un) c', ct := fun ds' c' => K.ct (ds'.set i .un) c' } (ds.set i (.sh (.exc a 0))) c)
    else hdl sub ep K r x ds c
def sTry (xs : List Str) (sub : Str → Str → Bool) (ep : Ep) (body : Ep → DS) (cl : List Cl) : DS := fun K ds c => body (fun x ds' c' => x ∈ xs ∧ hdl sub ep K cl x ds' c') K ds c
/-- a suite's reading, of what holds of its classes -/
def tsW (G : Gc) (xs : List Str) (g : Str → Addr → DS) : Addr → Value → Option Addr → TS := fun a cls d E σ H => ∃ x hs ds c K, cls = .ref (G.ca x) ∧ d = none ∧ x ∈ xs ∧ StR (G.blk G.gh) hs σ H ds c ∧ g x a K ds c ∧ EndsOk (G.blk G.gh) hs K E
def tbW (G : Gc) (bf : Ep → DS) : WX → TS := fun Wx E σ H => ∃ hs0 hs ds c K ep, StR (G.tr ep Wx hs0) hs σ H ds c ∧ bf ep K ds c ∧ EndsOk (G.tr ep Wx hs0) hs K E ∧ (∀ x hs ds c σ H, StR (G.tr ep Wx hs0) hs σ H ds c → ep x ds c → Wx (.ref (G.ca x)) none σ H)
/-- what the clauses are shown -/
inductive HdsD (X : Cx) (G : Gc) (xs : List Str) (sub : Str → Str → Bool) : List ExceptHandler → List Cl → List (Value × Option Nat × (Addr → Value → Option Addr → TS)) → Prop
  | nil : HdsD X G xs sub [] [] []
  | cons {y : Str} {g : Str → Addr → DS} {b₀ : Stmt} {suite : List Stmt} {np pos' : Pos} {hds : List ExceptHandler} {l : List Cl} {l2 : List (Value × Option Nat × (Addr → Value → Option Addr → TS))} (hc : Names X y (.ref (G.ca y)))
      (he : ∀ x ∈ xs, PySem.W.exmOne X.K (.ref (G.ca x)) (.ref (G.ca y)) = some (sub x y))
      (hsu : ∀ (x : Str) (a : Addr) (oe : Obj) (pn : List (Addr × Obj)), x ∈ xs → Pin (X.suite a ((a, oe) :: pn)) G.ca x a → VSs (X.suite a ((a, oe) :: pn)) (G.blk G.gh) (b₀ :: suite) (g x a)) (r : HdsD X G xs sub hds l l2) :
      HdsD X G xs sub (.ExceptHandler (some (.Name y np)) none (b₀ :: suite) pos' :: hds) (⟨y, none, g⟩ :: l) ((.ref (G.ca y), none, tsW G xs g) :: l2)
  | consN {y n : Str} {i : Nat} {g : Str → Addr → DS} {b₀ : Stmt} {suite : List Stmt} {np pos' : Pos} {hds : List ExceptHandler} {l : List Cl} {l2 : List (Value × Option Nat × (Addr → Value → Option Addr → TS))} (hc : Names X y (.ref (G.ca y)))
      (he : ∀ x ∈ xs, PySem.W.exmOne X.K (.ref (G.ca x)) (.ref (G.ca y)) = some (sub x y)) (hi : X.N[i]? = some n) (hln : X.env.kindOf n = some .local)
      (hsu : ∀ (x : Str) (a : Addr) (oe : Obj) (pn : List (Addr × Obj)), x ∈ xs → Pin (X.suite a ((a, oe) :: pn)) G.ca x a → VSs (X.suite a ((a, oe) :: pn)) (G.blk G.gh) (b₀ :: suite) (g x a)) (r : HdsD X G xs sub hds l l2) :
      HdsD X G xs sub (.ExceptHandler (some (.Name y np)) (some n) (b₀ :: suite) pos' :: hds) (⟨y, some i, g⟩ :: l) ((.ref (G.ca y), some i, tsW G xs g) :: l2)
theorem tsW_ps {xs : List Str} {g : Str → Addr → DS} {suite : List Stmt} {a : Addr} {oe : Obj} {cls : Value} {d : Option Addr} {pn : List (Addr × Obj)} (hz : L2N.Zn cls d oe) (hf : ∃ vs, oe.data = .fields vs)
    (hsu : ∀ (x : Str) (a : Addr) (oe : Obj) (pn : List (Addr × Obj)), x ∈ xs → Pin (X.suite a ((a, oe) :: pn)) G.ca x a → VSs (X.suite a ((a, oe) :: pn)) (G.blk G.gh) suite (g x a)) : PSs (X.suite a ((a, oe) :: pn)) suite (tsW G xs g a cls d) := by
  refine ⟨fun pins s σ H E I q => ?_⟩
  obtain ⟨x, hs, ds, c, K, rfl, rfl, hx, S, q, k⟩ := q
  obtain ⟨t, pt, it⟩ := (hsu x a oe pn hx ⟨oe, List.mem_cons_self, hz, hf⟩).ex
  exact pt.run pins s σ H E I (it hs σ H ds c K E S q k)
theorem HdsD.n {xs : List Str} {sub : Str → Str → Bool} {hds : List ExceptHandler} {l : List Cl} {l2 : List (Value × Option Nat × (Addr → Value → Option Addr → TS))} (h : HdsD X G xs sub hds l l2) : L2N.HdsN X hds l2 := by
  induction h with
  | nil => exact .nil
  | cons hc he hsu r ih => exact .cons hc (fun a oe cls d pn hz hf => tsW_ps hz hf hsu) ih
  | consN hc he hi hln hsu r ih => exact .consN hc hi hln (fun a oe cls d pn hz hf => tsW_ps hz hf hsu) ih
theorem StR.toB (S : StR G hs σ H ds c) : StR (G.blk G.gh) hs σ H ds c := ⟨S.same, S.winv, S.len, S.sh, S.ow, S.apart, S.held, S.ghd⟩
theorem StR.ofB (S : StR (G.blk G.gh) hs σ H ds c) : StR G hs σ H ds c := ⟨S.same, S.winv, S.len, S.sh, S.ow, S.apart, S.held, S.ghd⟩
theorem rep_exc {P : Addr → Prop} {H : Hp} {a b : Addr} {v : V} : Rep P H (.exc a b) v ↔ v = .ref a := by simp only [Rep]
theorem HdsD.want {xs : List Str} {sub : Str → Str → Bool} {hds : List ExceptHandler} {l : List Cl} {l2 : List (Value × Option Nat × (Addr → Value → Option Addr → TS))} (h : HdsD X G xs sub hds l l2) (go : GOk X G) {K : DK} {E : Ends} {x : Str} (hx : x ∈ xs) (S : StR G hs σ H ds c) (q : hdl sub G.ep K l x ds c) (k : EndsOk G hs K E) :
    L2N.wManyN X.K G.W E l2 (.ref (G.ca x)) none σ H := by
  induction h with
  | nil => exact go.link x hs ds c σ H S q
  | @cons y g b₀ suite np pos' hds l l2 hc he hsu r ih =>
    refine ⟨sub x y, he x hx, fun e a na => ?_, fun e => ?_⟩
    · unfold hdl at q
      rw [if_pos e] at q
      exact ⟨x, hs, ds, c, K, rfl, rfl, hx, S.toB, q a, ⟨fun σ H ds c S q => k.nx σ H ds c S.ofB q, fun σ H ds c v d S r q => k.rt σ H ds c v d S.ofB r q, fun σ H ds c S q => k.bk σ H ds c S.ofB q, fun σ H ds c S q => k.ct σ H ds c S.ofB q⟩⟩
    · unfold hdl at q
      rw [if_neg (by rw [e]; exact Bool.false_ne_true)] at q
      exact ih q
  | @consN y n i g b₀ suite np pos' hds l l2 hc he hi hln hsu r ih =>
    refine ⟨sub x y, he x hx, fun e a na => ?_, fun e => ?_⟩
    · unfold hdl at q
      rw [if_pos e] at q
      refine ⟨x, hs, ds.set i (.sh (.exc a 0)), c, _, rfl, rfl, hx, (S.setSh (rep_exc.mpr rfl)).toB, q a, ⟨fun σ H ds c S q => k.nx _ H _ c (S.ofB.setUn) q, fun σ H ds c v d S r q => k.rt σ H ds c v d S.ofB r q, fun σ H ds c S q => k.bk _ H _ c (S.ofB.setUn) q, fun σ H ds c S q => k.ct _ H _ c (S.ofB.setUn) q⟩⟩
    · unfold hdl at q
      rw [if_neg (by rw [e]; exact Bool.false_ne_true)] at q
      exact ih q
theorem vs_try {xs : List Str} {sub : Str → Str → Bool} {body : List Stmt} {h₀ : ExceptHandler} {hds : List ExceptHandler} {l : List Cl} {l2 : List (Value × Option Nat × (Addr → Value → Option Addr → TS))} {bf : Ep → DS} {pos : Pos} (hst : X.stack = X.env :: X.outer) (hf : X.env.frame = some X.env.locals) (hN : X.N.Nodup) (go : GOk X G)
    (hb : ∀ (ep : Ep) (Wx : WX) (h0 : List (D × V)) (pn : List (Addr × Obj)) (xe : Value → Shared → Prop), GOk (X.tr pn xe) (G.tr ep Wx h0) → PassesOwn (model X.prog X.w) X.A X.env xe → VSs (X.tr pn xe) (G.tr ep Wx h0) body (bf ep))
    (hh : HdsD X G xs sub (h₀ :: hds) l l2) : VS X G (.Try body (h₀ :: hds) [] [] pos) (sTry xs sub G.ep bf l) := by
  refine ⟨_, L2N.ps_try_manyN (tb := tbW G bf) hst hf hN go.tk (fun Wx pn xe tk hp => ⟨fun pins s σ H E I q => ?_⟩) hh.n, fun hs σ H ds c K E S q k => ?_⟩
  · obtain ⟨hs0, hs, ds, c, K, ep, S, q, k, lk⟩ := q
    obtain ⟨t, pt, it⟩ := (hb ep Wx hs0 pn xe ⟨tk, lk⟩ hp).ex
    exact pt.run pins s σ H E I (it hs σ H ds c K E S q k)
  · exact ⟨hs, [], ds, c, K, _, S.toTr, q, k.toTr, fun x hs' ds' c' σ' H' S' q' => hh.want go q'.1 S'.ofTr q'.2 k⟩
end
end DL

set_option Elab.async false
set_option linter.all false
set_option maxRecDepth 100000
set_option maxHeartbeats 4000000
/-! DL12: isinstance, sorted, dicts, reversed(range), Bx rules. -/
namespace DL
open PySem PySem.Spec L2
/-! ### isinstance of data -/
def tyS : D → Option String
  | .non => some "NoneType" | .bl _ => some "bool" | .int _ => some "int" | .str _ => some "str" | .lst _ => some "list" | .scr _ => some "list" | .tup _ => some "tuple" | .dct _ _ => some "dict" | _ => none
def isK (T : String) (t : String) : Bool := (kitB t T).getD false
def isTy (T : String) (d : D) : Bool := match tyS d with
  | some t => isK T t
  | none => false
def tys : List String := ["NoneType", "bool", "int", "str", "list", "tuple", "dict"]
def okT (T : String) : Bool := tys.all fun t => (kitB t T).isSome
theorem tyS_mem {d : D} {t : String} (h : tyS d = some t) : t ∈ tys := by
  cases d <;> first | (cases h; done) | (cases Option.some.inj h; decide)
theorem rep_tyX {K : PySem.W.Frag} {P : Addr → Prop} {H : Hp} {d : D} {v : V} {t : String} (h : tyS d = some t) (r : Rep P H d v) : TyX K H v (.type t) := by
  cases d with
  | non => cases Option.some.inj h; rw [rep_non.mp r]; exact .base .non
  | bl b => cases Option.some.inj h; rw [rep_bl.mp r]; exact .base (.bl _)
  | int b => cases Option.some.inj h; rw [rep_int.mp r]; exact .base (.int _)
  | str b => cases Option.some.inj h; rw [rep_str.mp r]; exact .base (.str _)
  | lst b => cases Option.some.inj h; obtain ⟨a, vs, rfl, _, e, _⟩ := rep_lst.mp r; exact .base (.lst e)
  | tup b => cases Option.some.inj h; obtain ⟨a, vs, rfl, e, _⟩ := rep_tup.mp r; exact .base (.tup e)
  | scr b => cases Option.some.inj h; obtain ⟨a, o, rfl, e⟩ := rep_scr.mp r; exact .base (.frz e)
  | dct ks es => cases Option.some.inj h; obtain ⟨a, kvs, rfl, _, e, _⟩ := rep_dct.mp r; exact .base (.dK e)
  | _ => cases h
section
variable {X : Cx} {G : Gc} {S : Sc} {M : MGd} {k : Nat} {e a b : Expr} {f g : DE} {fa : DA} {x y : Str} {pos p p1 p2 pos' : Pos}
def eIsT (T : String) (f : DE) : DE := fun ds c Q => f ds c fun d c' => (tyS d).isSome = true ∧ Q (.bl (isTy T d)) c'
theorem Bx.isT (B : Bx X G S M k) (j jf j2 jf2 : Nat) {T : String} (ha : VE .B X G a f) (hT : okT T = true) (hv : bootBuiltins y = some (.type T)) (h : S.gs[j]? = some ("isinstance" : Str) := by rfl) (hm : M.fr[jf]? = some ("isinstance" : Str) := by rfl) (h2 : S.gs[j2]? = some y := by rfl) (hm2 : M.fr[jf2]? = some y := by rfl)
    (he : starEach [a, .Name y p1] X.env = (false, eval a X.env) :: starEach [.Name y p1] X.env := by rfl) (he2 : starEach [.Name y p1] X.env = (false, eval (.Name y p1) X.env) :: starEach [] X.env := by rfl) (hpl : (backTo pos (starEach [.Name y p1] X.env)).any (·.1) = false := by rfl) :
    VE .N X G (.Call (.Name "isinstance" p) [a, .Name y p1] [] pos) (eIsT T f) := by
  obtain ⟨t, pt, it⟩ := ha.ex
  have G1 := B.gl h
  have G2 := B.gl h2
  refine ⟨_, pe_callB call_isi G1.1 (B.mg.fr hm) (by decide +kernel : bootBuiltins "isinstance" = some (.builtin "isinstance")) (pa_cons pt (pa_cons (pe_bltn (v := .ty T) G2.1 (B.mg.fr hm2) hv rfl G2.2.2 G2.2.1) pa_nil he2) he) G1.2.2 G1.2.1 he hpl, fun hs σ H ds c Qd Q S q k => ?_⟩
  refine it hs σ H ds c _ _ S q fun v H1 d c1 S1 s1 r q1 => ?_
  obtain ⟨tt, ht⟩ := Option.isSome_iff_exists.mp q1.1
  have hk : (kitB tt T).isSome = true := List.all_eq_true.mp hT tt (tyS_mem ht)
  obtain ⟨bb, hb⟩ := Option.isSome_iff_exists.mp hk
  refine ⟨v, .ty T, .type tt, .type T, bb, rfl, .ty T, rep_tyX ht (repB r), kit_ty hb, ?_⟩
  have e1 : isTy T d = bb := by unfold isTy; rw [ht]; show isK T tt = bb; unfold isK; rw [hb]; rfl
  have q2 := q1.2
  rw [e1] at q2
  exact k _ _ _ _ S1 s1 (repN (rep_bl.mpr rfl)) q2
/-! ### sorted -/
def eSoS (f : DE) : DE := fun ds c Q => f ds c fun d c' => match d with
  | .lst xs => match toInts xs with
    | some ns => (∃ L : List Int, (∀ z ∈ ns, z ∈ L) ∧ L.length + 1 < scanBound) ∧ ∀ ns' : List Int, ns'.Pairwise (· < ·) → (∀ k, k ∈ ns' ↔ k ∈ ns) → Q (.lst (ns'.map .int)) c'
    | none => False
  | _ => False
theorem Bx.soS (B : Bx X G S M k) (j jf j2 jf2 : Nat) (ha : VE .B X G a f) (h : S.gs[j]? = some ("sorted" : Str) := by rfl) (hm : M.fr[jf]? = some ("sorted" : Str) := by rfl) (h2 : S.gs[j2]? = some ("set" : Str) := by rfl) (hm2 : M.fr[jf2]? = some ("set" : Str) := by rfl) (hh : S.hot = false := by rfl)
    (na : starEach [a] X.env = (false, eval a X.env) :: starEach [] X.env := by rfl) : VE .N X G (.Call (.Name "sorted" p) [.Call (.Name "set" p2) [a] [] p1] [] pos) (eSoS f) := by
  obtain ⟨t, pt, it⟩ := ha.ex
  refine ⟨_, pe_sorSet (B.calm hh) (B.gl h).1 (B.mg.fr hm) (B.gl h2).1 (B.mg.fr hm2) pt na, fun hs σ H ds c Qd Q S q k => ?_⟩
  refine it hs σ H ds c _ _ S q fun v H1 d c1 S1 s1 r q1 => ?_
  cases d with
  | lst xs =>
    cases hn : toInts xs with
    | none => simp only [hn] at q1
    | some ns =>
      simp only [hn] at q1
      cases toInts_eq hn
      obtain ⟨a, vs, rfl, _, e, rl⟩ := rep_lst.mp (repB r)
      rw [repL_ints] at rl
      subst rl
      refine ⟨a, ns, rfl, SqL.of e, q1.1, fun ns' p h1 h2 h3 => ?_⟩
      exact k _ _ _ _ (S1.newO h3) (s1.trans (.new h3)) (repN (Rep.weak (fun b z _ => ⟨z.1, s1.dom b z.2⟩) _ _ (newLst S1.winv h3 (flatL_ints ns') (P := fun _ => True) (repL_ints.mpr rfl)))) (q1.2 ns' h1 h2)
  | _ => exact q1.elim
def dSorI (ns ns' : List Int) : Prop := ns'.Perm ns ∧ ns'.Pairwise (· ≤ ·)
/-! ### dicts -/
def eDct : DE := fun _ c Q => Q (.dct [] []) c
theorem ve_dct : VE .O X G (.Dict [] [] pos) eDct := ⟨_, pe_dnewK, fun hs σ H ds c Qd Q S q k p hp => k _ _ (.dct [] []) _ (S.newO hp) (.new hp) ⟨p, [], rfl, S.fresh hp, upd_same, rfl, .nil⟩ q⟩
def dPut (ks : List Key) (es : List D) (k : Key) (d : D) : List Key × List D :=
  if (ks.any fun j => decide (j = k)) = true then (ks, List.zipWith (fun j e => if j = k then d else e) ks es) else (ks ++ [k], es ++ [d])
theorem put_rep {P : Addr → Prop} {H : Hp} {kvs : List (Key × V)} {ks : List Key} {es : List D} {k : Key} {d : D} {v : V} (e : kvs.map (·.1) = ks) (t : RepL P H es (kvs.map (·.2))) (r : Rep P H d v) :
    (putK kvs k v).map (·.1) = (dPut ks es k d).1 ∧ RepL P H (dPut ks es k d).2 ((putK kvs k v).map (·.2)) := by
  subst e
  unfold putK dPut
  have h1 : ((kvs.map (·.1)).any fun j => decide (j = k)) = (kvs.any fun kv => decide (kv.1 = k)) := by rw [List.any_map]; rfl
  rw [h1]
  by_cases h : (kvs.any fun kv => decide (kv.1 = k)) = true
  · rw [if_pos h, if_pos h]
    refine ⟨?_, ?_⟩
    · rw [List.map_map]
      refine List.map_congr_left fun kv _ => ?_
      show (if kv.1 = k then (kv.1, v) else kv).1 = kv.1
      split <;> rfl
    · clear h1 h
      show RepL P H (List.zipWith (fun j e => if j = k then d else e) (kvs.map (·.1)) es) _
      induction kvs generalizing es with
      | nil => exact .nil
      | cons p r' ih =>
        cases es with
        | nil => have := t.len; cases this
        | cons e es =>
          obtain ⟨u, ur, eq, r1, r2⟩ := t.uncons
          have e1 : u = p.2 := by have := congrArg List.head? eq; exact (Option.some.inj this).symm
          have e2 : ur = r'.map (·.2) := by have := congrArg List.tail eq; exact this.symm
          subst e1 e2
          by_cases hk : p.1 = k
          · simp only [List.map_cons, List.zipWith_cons_cons, hk, if_true]
            exact .cons r (ih r2)
          · simp only [List.map_cons, List.zipWith_cons_cons, hk, if_false]
            exact .cons r1 (ih r2)
  · rw [if_neg h, if_neg h]
    refine ⟨by rw [List.map_append]; rfl, ?_⟩
    rw [List.map_append]
    exact RepL.append t (.cons r .nil)
def sDPt (i : Nat) (fv fk : DE) : DS := fun K ds c => fv ds c fun d c1 => match ds[i]? with
  | some (.ow (.dct ks es)) => fk ds c1 fun y c2 => match toKey y with
    | some k => ks.length < sizeLine ∧ K.nx (ds.set i (.ow (.dct (dPut ks es k d).1 (dPut ks es k d).2))) c2
    | none => False
  | _ => False
theorem Bx.dput (B : Bx X G S M k) {b : Expr} {tpos : Pos} {fk : DE} (i : Nat) (he : VE .E X G e f) (hk : VE .B X G b fk) (h : S.N[i]? = some x := by rfl) (hv : S.vi.elem i = true := by rfl)
    (hs : swapsWith e (some (.Subscript (.Name x pos') b tpos)) pos.line X.env = pure false := by rfl) (hh : S.hot = false := by rfl) : VS X G (.Assign [.Subscript (.Name x pos') b tpos] e pos) (sDPt i f fk) := by
  obtain ⟨t, pt, it⟩ := he.ex
  obtain ⟨tk, pk, ik⟩ := hk.ex
  refine ⟨_, ps_dput (hu1 (B.room hh)) (pe_var (B.hN h) (B.vis h hv).1 (B.vis h hv).2.1 (B.vis h hv).2.2.1) pk pt hs, fun hs σ H ds c K E S q k => ?_⟩
  refine it hs σ H ds c _ _ S q fun v H1 d c1 S1 s1 r q1 => ?_
  split at q1
  · next ks es e0 =>
    obtain ⟨p, e1, ph0, plg, ho⟩ := S1.ow i _ e0
    refine ⟨.ref p, e1, ?_⟩
    refine ik hs σ H1 ds c1 _ _ S1 q1 fun vk H2 y c2 S2 s2 rk q2 => ?_
    cases hy : toKey y with
    | none => simp only [hy] at q2
    | some key =>
      simp only [hy] at q2
      obtain ⟨p2, e2, _, _, kvs, h1, h2, h3⟩ := S2.ow i _ e0
      have ep : p2 = p := by rw [e1] at e2; cases e2; rfl
      subst ep
      have rv : Rep (pE G ds σ) H2 d v := rep2_self.mp (RepM.keep s2 r)
      obtain ⟨w1, w2⟩ := put_rep (k := key) h2 h3 rv
      have ln : kvs.length = ks.length := by rw [← h2, List.length_map]
      refine ⟨p2, _, rfl, ?_, k.nx σ _ _ c2 (S2.write (o' := .dK (putK kvs key v)) e0 e1 ?_) q2.2⟩
      · rw [toKey_rep hy (repB rk)]
        exact DPut.k h1 (by rw [ln]; exact q2.1)
      · have np : ¬ pE G ds σ p2 := fun z => z.2.1 (.inr ⟨i, _, e0, e1⟩)
        have hm : Mut (H2 p2) := by rw [h1]; exact trivial
        exact ⟨_, upd_same, w1, RepL.write (fun b hb => upd_ne hb) hm np _ _ w2⟩
  · exact q1.elim
end
end DL

set_option Elab.async false
set_option linter.all false
set_option maxRecDepth 100000
set_option maxHeartbeats 4000000
/-! DL13: Bx rules for reversed(range), item stores, try, suites. -/
namespace DL
open PySem PySem.Spec L2
section
variable {X : Cx} {G : Gc} {S : Sc} {M : MGd} {k : Nat} {e a b : Expr} {f g : DE} {fa : DA} {x y : Str} {pos p p1 p2 pos' : Pos}
/-! ### reversed(range(n)) -/
def iRvR (f : DE) : DI := fun ds c Q => f ds c fun d c' => match d with
  | .int n => (-(2 ^ 62) ≤ n ∧ n < 2 ^ 62) ∧ Q (ups (0 + ((n - 0).toNat : Nat) - 1) (-1) (n - 0).toNat) c'
  | _ => False
theorem Bx.rvR (B : Bx X G S M k) {m : Md} {tg : Expr} (j jf j2 jf2 : Nat) (ha : VE .B X G a f) (h : S.gs[j]? = some ("reversed" : Str) := by rfl) (hm : M.fr[jf]? = some ("reversed" : Str) := by rfl) (h2 : S.gs[j2]? = some ("range" : Str) := by rfl) (hm2 : M.fr[jf2]? = some ("range" : Str) := by rfl)
    (na : starEach [a] X.env = (false, eval a X.env) :: starEach [] X.env := by rfl) (na2 : starEach [.Call (.Name "range" p2) [a] [] p1] X.env = (false, eval (.Call (.Name "range" p2) [a] [] p1) X.env) :: starEach [] X.env := by rfl) :
    VI m X G tg (.Call (.Name "reversed" p) [.Call (.Name "range" p2) [a] [] p1] [] pos) (iRvR f) := by
  obtain ⟨t, pt, it⟩ := ha.ex
  refine ⟨_, pi_revR (B.gl h).1 (B.mg.fr hm) (prg_1 (B.gl h2).1 (B.mg.fr hm2) pt na) na2, fun hs σ H ds c Qd R S q k => ?_⟩
  refine it hs σ H ds c _ _ S q fun v H1 d c1 S1 s1 r q1 => ?_
  cases d with
  | int n =>
    rw [rep_int.mp (repB r)]
    refine ⟨n, rfl, by decide, by decide, q1.1.1, q1.1.2, k _ H1 _ c1 [] S1 s1 nil_held wk_rngC q1.2⟩
  | _ => exact q1.elim
theorem Bx.ixs (B : Bx X G S M k) {tpos : Pos} {fk : DE} (i : Nat) (he : VE .E X G e f) (hk : VE .B X G b fk) (h : S.N[i]? = some x := by rfl) (hv : S.vi.elem i = true := by rfl)
    (ha : ∀ v, assign (.Subscript (.Name x pos') b tpos) X.env v = (do
      let ov ← holding [v] (eval (.Name x pos') X.env)
      let iv ← holding [v, ov] (eval b X.env)
      standAt tpos
      holding [v, ov, iv] (setItem ov iv v)
      release [v, ov, iv] []) := by intro _; rfl)
    (hs : swapsWithSole [.Subscript (.Name x pos') b tpos] e pos.line X.env = pure false := by rfl) (hw : swappedStores [.Subscript (.Name x pos') b tpos] e X.env = pure none := by rfl)
    (h1 : (assignEach [.Subscript (.Name x pos') b tpos] X.env).map (·.2) = [assign (.Subscript (.Name x pos') b tpos) X.env] := by rfl) : VS X G (.Assign [.Subscript (.Name x pos') b tpos] e pos) (sIxS i f fk) :=
  vs_ixs (o := e) (B.hN h) (B.vis h hv).1 he hk ha hs hw h1 (B.vis h hv).2.1 (B.vis h hv).2.2.1
theorem Bx.ext (B : Bx X G S M k) {apos spos : Pos} (i : Nat) (he : VE .B X G e f) (h : S.N[i]? = some x := by rfl) (hv : S.vi.elem i = true := by rfl)
    (hbase : attributeBase (.Name x pos') "extend" X.env (eval (.Name x pos') X.env) = eval (.Name x pos') X.env := by rfl)
    (hfew : ((backTo pos (starEach (e :: []) X.env)).all (fun x => !x.1) && (backToKw pos (keywordEach [] X.env)).all (fun x => x.1.isSome)
      && decide ((e :: ([] : List Expr)).length + ([] : List Keyword).length + (if ([] : List Keyword).isEmpty then 0 else 1) < 30)) = true := by rfl)
    (hline : (apos.endLine == pos.line) = true := by rfl) (hse : starEach (e :: []) X.env = (false, eval e X.env) :: starEach [] X.env := by rfl) (hplain : (backTo pos (starEach [] X.env)).any (·.1) = false := by rfl)
    (hs : swapsWith (.Call (.Attribute (.Name x pos') "extend" apos) [e] [] pos) none spos.line X.env = pure false := by rfl) : VS X G (.Expr (.Call (.Attribute (.Name x pos') "extend" apos) [e] [] pos) spos) (sExt i f) :=
  vs_ext (B.hN h) (B.vis h hv).1 he hbase hfew hline hse hplain hs (B.vis h hv).2.1 (B.vis h hv).2.2.1
/-! ### try -/
structure Tp (X : Cx) : Prop where
  st : X.stack = X.env :: X.outer
  fr : X.env.frame = some X.env.locals
theorem Bx.tr (B : Bx X G S M k) (hh : S.hot = false) {ep : Ep} {Wx : WX} {h0 : List (D × V)} {pn : List (Addr × Obj)} {xe : Value → Shared → Prop} (go : GOk (X.tr pn xe) (G.tr ep Wx h0)) : Bx (X.tr pn xe) (G.tr ep Wx h0) S M k :=
  ⟨B.n, B.s, B.ok, B.nd, B.calm_, B.fn, B.room_, fun z => absurd (hh.symm.trans z) Bool.false_ne_true, go, B.mg⟩
/-- the scope in a suite -/
def hotS (S : Sc) : Sc := { S with hot := true }
theorem hotS_ok {S : Sc} (h : S.ok = true) : (hotS S).ok = true := h
theorem Bx.suite (B : Bx X G S M k) (hh : S.hot = false) {a : Addr} {oe : Obj} {pn : List (Addr × Obj)} {x : Str} (P : Pin (X.suite a ((a, oe) :: pn)) G.ca x a) : Bx (X.suite a ((a, oe) :: pn)) (G.blk G.gh) (hotS S) M k := by
  obtain ⟨o2, hp, hz, hf⟩ := P.ex
  refine ⟨B.n, B.s, hotS_ok B.ok, B.nd, (fun z => nomatch z), B.fn, (fun z => nomatch z), fun _ => ⟨?_, ?_⟩, gok_blk, B.mg⟩
  · have r := L2H.roomH_of (B.room_ hh)
    exact ⟨r.dp, r.un⟩
  · obtain ⟨vs, hv⟩ := hf
    exact ⟨(a, o2), ⟨rfl, vs, hv, hz.2.2 vs hv⟩, hp⟩
theorem Bx.nm (B : Bx X G S M k) (j i : Nat) (h : S.gs[j]? = some x := by rfl) (hm : M.xs[i]? = some x := by rfl) : Names X x (.ref (G.ca x)) := ⟨(B.gl h).1, (B.gl h).2.1, .inl (B.mg.xs hm).gC⟩
end
end DL

set_option Elab.async false
set_option linter.all false
set_option maxRecDepth 100000
set_option maxHeartbeats 4000000
/-! DL14: isinstance of a caught error; defs called in a suite with it (HandS.HotCalls's rules, for one pinned object). -/
namespace L2H
open PySem PySem.Spec PyProof.Rows L2 HotX
structure FnHp (P : Program) (w : World) (K : PySem.W.Frag) (mg : Str → Option Value) (base : Heap) (CX : CXT) (k : Nat) (f : Addr) (fd : FuncData) (ps : List Str) (p : Addr × Obj) (sp : Sp) : Prop where
  len : ∀ vs H Q E, sp vs H Q E → vs.length = ps.length
  run : ∀ (A : Around) (outer : List Env) (s : Shared) (H : Hp) (args : Args) (us : List Value) (vs : List V) (Q : VK) (E : XK), RoomH k A → Hot1 A p → PinOk outer H s p → Env0 P w K mg base A outer s H → BindsTo s fd args (ps.zip us) → Vals vs us → sp vs H Q E →
    codeAny (model P w) A (.call (.ref f) args) (CR CX outer P w H s Q E) s
theorem fn_ofHp {p : Addr × Obj} {CX : CXT} {P : Program} {w : World} {K : PySem.W.Frag} {mg : Str → Option Value} {base : Heap} {k : Nat} {f : Addr} {name qual : Str} {params : Arguments} {body : List Stmt} {scope : Scope} {dV kV doc pm cdv ct oc : Value} {an od : Option Addr}
    {osl : Array (Option Value)} {N ps : List Str} {sp : Sp} (lk : K.lookup f = some ⟨oc, od, .func (PySem.W.fnOf name qual params body scope dV kV doc pm an cdv ct), osl⟩) (hcd : PySem.W.codeIn K cdv qual = true) (S : FnScope N ps scope)
    (len : ∀ vs H Q E, sp vs H Q E → vs.length = ps.length)
    (hbody : ∀ (A : Around) (outer : List Env) (s : Shared) (H : Hp) (vs : List V) (Q : VK) (E : XK), Hot1 A p → RoomH k (A.deeper (envOfC qual scope s.heap.objs.size f cdv)) → sp vs H Q E →
      ∃ t, PSs (cxH CX P w K mg base N qual scope f cdv A outer s H E p) body t ∧ t { nx := fun _ H' => Q .non H', rt := Q } (L2.start N vs) H) :
    FnHp P w K mg base CX (k + 1) f (PySem.W.fnOf name qual params body scope dV kV doc pm an cdv ct) ps p sp := by
  refine ⟨len, fun A outer s H args us vs Q E hr hot hpin e0 hb r hsp => ?_⟩
  have hl := len _ _ _ _ hsp
  have KX : K.In s.heap := e0.mod.kin.keeps fun b o e => (e0.bs b o e).1
  have lim : s.heap.NoLimit := e0.mod.nolimit.keeps fun b o e => (e0.bs b o e).1
  have hkind : ∀ y ∈ ps.zip us, scope.names.lookup y.1 = some .local ∨ (scope.names.lookup y.1 = some .cell ∧ ((cellsFrom (s.heap.objs.size + 1) scope.names []).lookup y.1).isSome = true) := fun ⟨n, v⟩ hy => by
    rcases S.par n (List.of_mem_zip hy).1 with q | q
    · exact .inl q
    · exact .inr ⟨q, PySem.W.cellsFrom_some _ _ _ (.inl q)⟩
  refine codeAny_call_function hr.depth (KX _ _ lk) rfl S.co S.gen rfl (PySem.W.codeRec_of KX hcd) (hb _ _ _ _ ?_)
  refine wpAny_newFunctionEnv_cells S.kind hkind fun env he s1 x => ?_
  subst he
  refine ⟨lim.keeps x.toInCall.keep, codeAny_func ?_⟩
  obtain ⟨t, ht, hq⟩ := hbody A outer s H vs Q E hot (hr.deeper _) hsp
  have I : Inv (cxH CX P w K mg base N qual scope f cdv A outer s H E p) [] (L2.start N vs) H s1 := inv_startH S hpin e0 hl r x
  refine wpAny_mono (ht.run [] s1 (L2.start N vs) H _ I hq) (fun fl s' hs => ?_) fun e s' hs => hs
  have fin : ∀ {σ' : St} {H' : Hp} {v : V} {u : Value}, Inv (cxH CX P w K mg base N qual scope f cdv A outer s H E p) [] σ' H' s' → RelV v u → Q v H' → CE outer P w H s Q u s' :=
    fun {σ' H' v u} J rv q => ⟨v, H', J.os, J.bare, J.base, J.hok, rv, q⟩
  cases fl with
  | ret u =>
    obtain ⟨v, σ', H', J, rv, q⟩ := hs
    exact fin J rv q
  | next =>
    obtain ⟨σ', H', J, q⟩ := hs
    exact fin (v := V.non) (u := Value.none) J rfl q
  | brk =>
    obtain ⟨_, _, _, q⟩ := hs
    exact False.elim q
  | cont =>
    obtain ⟨_, _, _, q⟩ := hs
    exact False.elim q
section
variable {X : Cx} {CX : CXT} {k : Nat} {f C : Addr} {fd : FuncData} {ps : List Str} {sp : Sp} {E : St → XK} {x m : Str} {q pos apos : Pos} {e o : Expr} {es : List Expr} {ta : TE} {t : TA}
theorem run_fnHp {pins : List (Addr × Obj)} {σ : St} {H : Hp} {s : Shared} {Q : VK} {us : List Value} {vs : List V} {p : Addr × Obj} (F : FnHp X.prog X.w X.K X.mg X.base CX k f fd ps p sp) (hr : RoomH k X.A) (hot : Hot1 X.A p) (hp : p ∈ X.pn) (hb : Binds X.K fd ps []) (hx : PassesAt CX X σ (E σ))
    (I : Inv X pins σ H s) (r : Vals vs us) (h : sp vs H Q (E σ)) : wpAny (model X.prog X.w) X.A (call (.ref f) us) (EP X pins σ Q) X.xe s := by
  have hl : us.length = ps.length := by rw [← r.length]; exact F.len _ _ _ _ h
  have b := hb s us I.kIn (by rw [List.append_nil]; exact hl)
  rw [List.append_nil] at b
  have P1 := I.pin p (List.mem_append_left _ hp)
  have hpin : PinOk X.stack H s p := ⟨P1.1, P1.2.1, fun hm => (List.mem_cons.mp (I.stkSub p.1 hm)).elim P1.2.2.1 P1.2.2.2.1, P1.2.2.2.2⟩
  refine wpAny_call (codeAny_mono (F.run X.A X.stack s H ⟨us, []⟩ us vs Q (E σ) hr hot hpin I.env0 b r h) fun r s' hq => ?_)
  cases r with
  | error e => exact hx pins H s e s' I hq
  | ok fl =>
    cases fl with
    | ret u => exact I.after hq
    | next => exact False.elim hq
    | brk => exact False.elim hq
    | cont => exact False.elim hq
theorem pe_callHp {p : Addr × Obj} (F : FnHp X.prog X.w X.K X.mg X.base CX k f fd ps p sp) (hr : RoomH k X.A) (hot : Hot1 X.A p) (hp : p ∈ X.pn) (hg : Gl X x) (hm : X.mg x = some (.ref f)) (hk : PySem.W.keepIn X.K (.ref f) = true) (hb : Binds X.K fd ps []) (hx : ∀ σ, PassesAt CX X σ (E σ))
    (ha : PA X (e :: es) t) (hdb : (x == ("__debug__" : Str)) = false := by decide) (he : starEach (e :: es) X.env = (false, eval e X.env) :: starEach es X.env := by rfl) (hpl : (backTo pos (starEach es X.env)).any (·.1) = false := by rfl) :
    PE X (.Call (.Name x q) (e :: es) [] pos) (tCallS sp E t) := by
  refine ⟨fun pins s σ H Q I h => ?_⟩
  refine wpAny_Call_Name_kw (ld_glob I hg hm ?_ hdb)
  refine PySem.W.callWith_K (h₀ := X.base) I.ok.mod.kin hk (thn (ha.run pos pins s σ H _ I h) fun us s1 ⟨vs, H1, I1, r, q⟩ => ⟨I1.kIn, ?_⟩) he hpl
  exact run_fnHp F hr hot hp hb (hx σ) I1 r q
end
end L2H
namespace L2
open PySem PySem.Spec PyProof.Rows
theorem inst_pin {X : Cx} {pins : List (Addr × Obj)} {σ : St} {H : Hp} {s : Shared} {D : Addr} {p : Addr × Obj} (I : Inv X pins σ H s) (hp : p ∈ X.pn) (hz : Zc (.ref D) none p.2) (hf : ∃ vs, p.2.data = .fields vs) : PySem.W.InstAt s.heap p.1 p.2 D none := by
  obtain ⟨hget, _⟩ := I.pin p (List.mem_append.mpr (.inl hp))
  obtain ⟨vs, hv⟩ := hf
  obtain ⟨a, oe⟩ := p
  obtain ⟨oc, od, oda, osl⟩ := oe
  obtain ⟨h1, h2⟩ := hz
  dsimp only at h1 h2 hv hget
  subst h1 h2 hv
  exact ⟨hget, rfl, rfl, trivial⟩
theorem call_isE1 {X : Cx} {D : Addr} {p : Addr × Obj} (hp : p ∈ X.pn) (C : ExcC X.K D) (hz : Zc (.ref D) none p.2) (hf : ∃ vs, p.2.data = .fields vs) : CallR X (.builtin "isinstance") (rIsE X.K D p.1) := by
  intro pins s σ H xs us Q I r h
  obtain ⟨c, cv, b, rfl, hcv, e, q⟩ := h
  obtain ⟨u1, u2, rfl, r1, r2⟩ := vals2 r
  cases r1
  have ec := hcv _ r2
  subst ec
  exact PySem.W.kia_one (PySem.W.handS_kitx_exc C.hg C.hk C.hs C.hd C.ha C.hn C.ht C.hm) I.kIn (inst_pin I hp hz hf) e (fun z => nomatch z) fun tk => ⟨.bl b, H, I.kept (t' := tk) fun _ _ z => z, rfl, q⟩
def rIsET (K : PySem.W.Frag) (D a : Addr) : List V → Hp → VK → Prop := fun xs H Q => ∃ (tp : Addr) (cs : List V) (us : List Value) (b : Bool), xs = [.ref a, .ref tp] ∧ H tp = some (.tup cs) ∧ Paired ClsV cs us ∧ PySem.W.kitAny K (.ref D) us = some b ∧ Q (.bl b) H
theorem call_isET {X : Cx} {D : Addr} {p : Addr × Obj} (hp : p ∈ X.pn) (C : ExcC X.K D) (hz : Zc (.ref D) none p.2) (hf : ∃ vs, p.2.data = .fields vs) : CallR X (.builtin "isinstance") (rIsET X.K D p.1) := by
  intro pins s σ H xs us Q I r h
  obtain ⟨tp, cs, ws, b, rfl, hT, k, e, q⟩ := h
  obtain ⟨u1, u2, rfl, r1, r2⟩ := vals2 r
  cases r1
  cases (show u2 = Value.ref tp from r2)
  obtain ⟨_, its, rv, o, h1, h2, n, h3⟩ := (show ObjOk X.prog X.w H s.heap tp (.tup cs) from I.hok tp _ hT)
  have e3 := ClsV.all k rv
  subst e3
  obtain ⟨oc, od, dt, sl⟩ := o
  simp only at h2 h3
  subst h2 h3
  exact PySem.W.kia_tup (PySem.W.handS_kitx_exc C.hg C.hk C.hs C.hd C.ha C.hn C.ht C.hm) I.kIn (inst_pin I hp hz hf) h1 e (fun z => nomatch z) fun tk => ⟨.bl b, H, I.kept (t' := tk) fun _ _ z => z, rfl, q⟩
end L2

namespace DL
open PySem PySem.Spec L2
section
variable {X : Cx} {G : Gc} {S : Sc} {M : MGd} {k : Nat} {e a b : Expr} {f g : DE} {fa : DA} {x y n : Str} {pos p p1 p2 p3 pos' : Pos} {ad : Addr}
def eIsE (i : Nat) (a : Addr) (b : Bool) : DE := fun ds c Q => match ds[i]? with
  | some (.sh (.exc a' _)) => a' = a ∧ Q (.bl b) c
  | _ => False
/-- a class's name, as a value -/
structure ClN (X : Cx) (G : Gc) (e : Expr) (c : CR) : Prop where
  ex : ∃ v, PE X e (tC v) ∧ ClsV v (c.v G.ca)
theorem Bx.clO (B : Bx X G S M k) (j i : Nat) (h : S.gs[j]? = some y := by rfl) (hm : M.xs[i]? = some y := by rfl) : ClN X G (.Name y pos) (.own y) :=
  ⟨.ref (G.ca y), pe_glob (B.gl h).1 (B.mg.xs hm).gC rfl (B.gl h).2.1, .own _⟩
theorem Bx.clT (B : Bx X G S M k) (j i : Nat) {T : String} (hv : bootBuiltins y = some (.type T)) (h : S.gs[j]? = some y := by rfl) (hm : M.fr[i]? = some y := by rfl) : ClN X G (.Name y pos) (.ty T) :=
  ⟨.ty T, pe_bltn (v := .ty T) (B.gl h).1 (B.mg.fr hm) hv rfl (B.gl h).2.2 (B.gl h).2.1, .ty T⟩
theorem exc_slot {hs : List (D × V)} {σ : St} {H : Hp} {ds : DSt} {c : Nat} {i : Nat} {a b : Addr} (S : StR G hs σ H ds c) (e : ds[i]? = some (.sh (.exc a b))) : σ[i]? = some (some (.ref a)) := by
  obtain ⟨v, h1, h2⟩ := S.sh i _ e
  rw [rep_exc] at h2
  rw [h1, h2]
theorem Bx.isE (B : Bx X G S M k) (j jf i : Nat) {cr : CR} (P : Pin X G.ca x ad) (hx : x ∈ M.xs) (C : ClN X G e cr) (hcr : M.crs.elem cr = true := by decide) (h : S.gs[j]? = some ("isinstance" : Str) := by rfl) (hm : M.fr[jf]? = some ("isinstance" : Str) := by rfl) (hn : S.N[i]? = some n := by rfl) (hv : S.vi.elem i = true := by rfl)
    (he : starEach [.Name n p1, e] X.env = (false, eval (.Name n p1) X.env) :: starEach [e] X.env := by rfl) (he2 : starEach [e] X.env = (false, eval e X.env) :: starEach [] X.env := by rfl) (hpl : (backTo pos (starEach [e] X.env)).any (·.1) = false := by rfl) :
    VE .N X G (.Call (.Name "isinstance" p) [.Name n p1, e] [] pos) (eIsE i ad (M.isB x cr)) := by
  obtain ⟨oe, hp, hz, hf⟩ := P.ex
  obtain ⟨v, pv, cv⟩ := C.ex
  refine ⟨_, pe_callB (call_isE1 (p := (ad, oe)) hp (B.mg.ex hx) hz.zc hf) (B.gl h).1 (B.mg.fr hm) (by decide +kernel : bootBuiltins "isinstance" = some (.builtin "isinstance")) (pa_cons (pe_var (B.hN hn) (B.vis hn hv).1 (B.vis hn hv).2.1 (B.vis hn hv).2.2.1) (pa_cons pv pa_nil he2) he) (B.gl h).2.2 (B.gl h).2.1 he hpl, fun hs σ H ds c Qd Q S q k => ?_⟩
  unfold eIsE at q
  split at q
  · next a' b' e0 =>
    obtain ⟨rfl, q⟩ := q
    refine ⟨_, exc_slot S e0, v, _, _, rfl, fun u r => cv.eq r, B.mg.is hx (List.elem_iff.mp hcr), ?_⟩
    exact k _ _ _ _ S .refl (repN (rep_bl.mpr rfl)) q
  · exact q.elim
end
end DL

set_option Elab.async false
set_option linter.all false
set_option maxRecDepth 100000
set_option maxHeartbeats 4000000
/-! DL15: isinstance of a tuple of classes; defs called in a suite. -/
namespace DL
open PySem PySem.Spec L2
section
variable {X : Cx} {G : Gc} {S : Sc} {M : MGd} {k k' : Nat} {e a b : Expr} {es : List Expr} {f g : DE} {fa : DA} {x y n : Str} {pos p p1 p2 p3 pos' : Pos} {ad : Addr}
theorem pair_len {α β : Type} {F : α → β → Prop} : ∀ {xs : List α} {ys : List β}, Paired F xs ys → xs.length = ys.length
  | _, _, .nil => rfl
  | _, _, .cons _ t => by rw [List.length_cons, List.length_cons, pair_len t]
def tCs (vs : List V) : TA := fun _ H Q => Q vs H
structure ClNs (X : Cx) (G : Gc) (es : List Expr) (cs : List CR) : Prop where
  ex : ∃ vs t, PA X es t ∧ (∀ σ H Q, Q vs H → t σ H Q) ∧ Paired ClsV vs (cs.map (CR.v G.ca))
theorem cl_nil : ClNs X G [] [] := ⟨[], _, pa_nil, fun σ H Q q => q, .nil⟩
theorem cl_cons {c : CR} {cs : List CR} (h1 : ClN X G e c) (h2 : ClNs X G es cs) (he : starEach (e :: es) X.env = (false, eval e X.env) :: starEach es X.env := by rfl) : ClNs X G (e :: es) (c :: cs) := by
  obtain ⟨v, pv, cv⟩ := h1.ex
  obtain ⟨vs, t, pt, it, cvs⟩ := h2.ex
  exact ⟨v :: vs, _, pa_cons pv pt he, fun σ H Q q => it σ H _ q, .cons cv cvs⟩
theorem kit_any {K : PySem.W.Frag} {M : MGd} {mg : Str → Option Value} {ca : Str → Addr} (Mg : Mg M K mg ca) (hx : x ∈ M.xs) : ∀ {cs : List CR}, (∀ c ∈ cs, c ∈ M.crs) → PySem.W.kitAny K (.ref (ca x)) (cs.map (CR.v ca)) = some (cs.any (M.isB x))
  | [], _ => rfl
  | c :: cs, h => by
    rw [List.map_cons, List.any_cons]
    refine kitAny_cons (Mg.is hx (h c List.mem_cons_self)) (fun e => ?_) (fun e => ?_)
    · rw [e, Bool.false_or]
      exact kit_any Mg hx fun c hc => h c (List.mem_cons_of_mem _ hc)
    · rw [e, Bool.true_or]
theorem Bx.isEs (B : Bx X G S M k) (j jf i : Nat) {cs : List CR} {kk : Nat} (P : Pin X G.ca x ad) (hx : x ∈ M.xs) (C : ClNs X G es cs) (hcr : cs.all (fun c => M.crs.elem c) = true := by decide) (h : S.gs[j]? = some ("isinstance" : Str) := by rfl) (hm : M.fr[jf]? = some ("isinstance" : Str) := by rfl) (hn : S.N[i]? = some n := by rfl) (hv : S.vi.elem i = true := by rfl)
    (he : starEach [.Name n p1, .Tuple es kk p2] X.env = (false, eval (.Name n p1) X.env) :: starEach [.Tuple es kk p2] X.env := by rfl) (he2 : starEach [.Tuple es kk p2] X.env = (false, eval (.Tuple es kk p2) X.env) :: starEach [] X.env := by rfl) (hpl : (backTo pos (starEach [.Tuple es kk p2] X.env)).any (·.1) = false := by rfl)
    (hsz : cs.length ≤ sizeLine := by decide) :
    VE .N X G (.Call (.Name "isinstance" p) [.Name n p1, .Tuple es kk p2] [] pos) (eIsE i ad (cs.any (M.isB x))) := by
  obtain ⟨oe, hp, hz, hf⟩ := P.ex
  obtain ⟨vs, t, pt, it, cv⟩ := C.ex
  refine ⟨_, pe_callB (call_isET (p := (ad, oe)) hp (B.mg.ex hx) hz.zc hf) (B.gl h).1 (B.mg.fr hm) (by decide +kernel : bootBuiltins "isinstance" = some (.builtin "isinstance")) (pa_cons (pe_var (B.hN hn) (B.vis hn hv).1 (B.vis hn hv).2.1 (B.vis hn hv).2.2.1) (pa_cons (pe_tup pt) pa_nil he2) he) (B.gl h).2.2 (B.gl h).2.1 he hpl, fun hs σ H ds c Qd Q S q k => ?_⟩
  unfold eIsE at q
  split at q
  · next a' b' e0 =>
    obtain ⟨rfl, q⟩ := q
    refine ⟨_, exc_slot S e0, it σ H _ ⟨by rw [pair_len cv, List.length_map]; exact hsz, fun tp ht => ?_⟩⟩
    refine ⟨tp, vs, _, _, rfl, upd_same, cv, kit_any B.mg hx (fun c hc => List.elem_iff.mp (List.all_eq_true.mp hcr c hc)), ?_⟩
    exact k _ _ _ _ (S.newO ht) (.new ht) (repN (rep_bl.mpr rfl)) q
  · exact q.elim

theorem suite_hd {X : Cx} {a : Addr} {pn : List (Addr × Obj)} : (X.suite a pn).A.handled = some (.ref a) := rfl
theorem Bx.kl (B : Bx X G S M k) (h : (match S.sc.names.lookup n with | some .local => true | _ => false) = true) : X.env.kindOf n = some .local := by
  show X.env.scope.names.lookup n = _
  rw [B.s]
  split at h
  · next z => exact z
  · cases h
theorem bt_len : bootBuiltins "len" = some (.builtin "len") := by decide +kernel
theorem bt_sum : bootBuiltins "sum" = some (.builtin "sum") := by decide +kernel
theorem bt_min : bootBuiltins "min" = some (.builtin "min") := by decide +kernel
theorem bt_max : bootBuiltins "max" = some (.builtin "max") := by decide +kernel
theorem bt_abs : bootBuiltins "abs" = some (.builtin "abs") := by decide +kernel
theorem bt_all : bootBuiltins "all" = some (.builtin "all") := by decide +kernel
theorem bt_sorted : bootBuiltins "sorted" = some (.builtin "sorted") := by decide +kernel
theorem bt_divmod : bootBuiltins "divmod" = some (.builtin "divmod") := by decide +kernel
theorem bt_isinstance : bootBuiltins "isinstance" = some (.builtin "isinstance") := by decide +kernel
theorem bt_tuple : bootBuiltins "tuple" = some (.type "tuple") := by decide +kernel
theorem bt_ValueError : bootBuiltins "ValueError" = some (.type "ValueError") := by decide +kernel
theorem bt_int : bootBuiltins "int" = some (.type "int") := by decide +kernel
theorem bt_bool : bootBuiltins "bool" = some (.type "bool") := by decide +kernel
theorem bt_list : bootBuiltins "list" = some (.type "list") := by decide +kernel
theorem bt_str : bootBuiltins "str" = some (.type "str") := by decide +kernel
theorem Bx.zip (B : Bx X G S M k) {m : Md} {e2 : Expr} {elts : List Expr} {kk : Nat} {tpos : Pos} (j i : Nat) (he : VE m X G e f) (he2 : VE m X G e2 g) (h : S.gs[j]? = some ("zip" : Str) := by rfl) (hm : M.fr[i]? = some ("zip" : Str) := by rfl) (hs : starEach [e, e2] X.env = [(false, eval e X.env), (false, eval e2 X.env)] := by rfl) (hs2 : starEach [e2] X.env = [(false, eval e2 X.env)] := by rfl) :
    VI m X G (.Tuple elts kk tpos) (.Call (.Name "zip" p) [e, e2] [] pos) (iZp f g) := vi_zip (B.gl h).1 (B.mg.fr hm) he he2 hs hs2
/-! ### defs called in a suite with its exception -/
/-- its promise, of the exception's class x and its address -/
structure FnDH (P : Program) (w : World) (K : PySem.W.Frag) (mg : Str → Option Value) (base : Heap) (W : Wd) (M : MGd) (k : Nat) (x : Str) (n : Nat) (sp : Str → Addr → FSp) : Prop where
  ex : ∃ f fd ps, (∀ (p : Addr × Obj) (y : Str), y ∈ M.xs → L2N.Zn (.ref (W.ca y)) none p.2 → (∃ vs, p.2.data = .fields vs) → L2H.FnHp P w K mg base (L2N.CX P w) k f fd ps p (liftSp W n false (sp y p.1))) ∧ mg x = some (.ref f) ∧ PySem.W.keepIn K (.ref f) = true ∧ Binds K fd ps []
def eFnH (n : Nat) (sp : FSp) (g : DA) : DE := fun ds c Q => g ds c fun xs c1 => xs.length = n ∧ sp xs c1 Q (fun _ _ => False)
theorem Bx.fnH (B : Bx X G S M k) {sp : Str → Addr → FSp} {nn : Nat} (j : Nat) (F : FnDH X.prog X.w X.K X.mg X.base G.wd M k' y nn sp) (hk : k' ≤ k) (P : Pin X G.ca x ad) (hx : x ∈ M.xs) (hhd : X.A.handled = some (.ref ad)) (ha : VA .B X G (a :: es) fa) (h : S.gs[j]? = some y := by rfl) (hh : S.hot = true := by rfl) (hn : (a :: es).length = nn := by rfl)
    (he : starEach (a :: es) X.env = (false, eval a X.env) :: starEach es X.env := by rfl) (hpl : (backTo pos (starEach es X.env)).any (·.1) = false := by rfl) : VE .N X G (.Call (.Name y p) (a :: es) [] pos) (eFnH nn (sp x ad) fa) := by
  obtain ⟨f, fd, ps, Fo, hm, hkp, hb⟩ := F.ex
  obtain ⟨oe, hp, hz, hf⟩ := P.ex
  obtain ⟨t, pt, it⟩ := ha.ex
  have hot : L2H.Hot1 X.A (ad, oe) := by
    obtain ⟨vs, hv⟩ := hf
    exact ⟨hhd, vs, hv, hz.2.2 vs hv⟩
  refine ⟨_, L2H.pe_callHp (E := fun _ => fun _ _ _ => False) (Fo (ad, oe) x hx hz hf) ((B.hotc hh).1.mono hk) hot hp (B.gl h).1 hm hkp hb (fun σ => ?_) pt (B.gl h).2.1 he hpl, fun hs σ H ds c Qd Q S q k => ?_⟩
  · intro pins H' s' e s2 I c
    obtain ⟨_, _, _, _, _, _, _, _, _, _, _, _, z⟩ := c
    exact z.elim
  · refine it hs σ H ds c _ _ S q fun vs H' xs c' S' s' r q' => ?_
    refine ⟨G.Lg, fun _ => True, xs, c', Qd, fun _ _ => False, q'.1, S'.winv, RepL.weak (fun a p _ => ⟨p, trivial⟩) _ _ r, q'.2, fun v H2 d c2 s2 w2 r2 q2 => ?_, fun x c2 H2 s2 w2 q2 => q2⟩
    exact k v H2 d c2 (S'.grow s2 w2) (s'.trans s2) (RepM.back s' (repN (Rep.weak (fun a p _ => ⟨p.1, p.2.elim id fun z => nomatch z.1⟩) _ _ r2))) q2
end
section
variable {P : Program} {w : World} {K : PySem.W.Frag} {mg : Str → Option Value} {base : Heap} {W : Wd}
theorem fndH {x : Str} {params : Arguments} {body : List Stmt} {scope : Scope} {f : Addr} {fd : FuncData} {S : Sc} {M : MGd} {ps : List Str} {k n : Nat} {sp : Str → Addr → FSp} {g : Str → Addr → DS} (F : FunD K x x params body scope [] [] f fd) (hm : mg x = some (.ref f)) (hb : Binds K fd ps []) (FS : FnScope S.N ps scope) (hsc : S.sc = scope) (ok : S.ok = true) (hM : Mg M K mg W.ca) (hn : ps.length = n)
    (hbody : ∀ (cdv : Value) (A : Around) (outer : List Env) (s : Shared) (H : Hp) (E : XK) (p : Addr × Obj) (y : Str) (Lg : Lgs) (Aa : Addr → Prop) (Wx : WX), y ∈ M.xs →
      Pin (L2H.cxH (L2N.CX P w) P w K mg base S.N x scope f cdv A outer s H E p) W.ca y p.1 → (L2H.cxH (L2N.CX P w) P w K mg base S.N x scope f cdv A outer s H E p).A.handled = some (.ref p.1) →
      Bx (L2H.cxH (L2N.CX P w) P w K mg base S.N x scope f cdv A outer s H E p) (mkG W false Lg Aa H noEp Wx) (hotS S) M k →
      VSs (L2H.cxH (L2N.CX P w) P w K mg base S.N x scope f cdv A outer s H E p) (mkG W false Lg Aa H noEp Wx) body (g y p.1))
    (sound : ∀ (y : Str) (a : Addr) (args : List D) (c : Nat) (Qd : D → Nat → Prop) (Ed : Str → Nat → Prop), args.length = n → sp y a args c Qd Ed → g y a { nx := fun _ c => Qd .non c, rt := Qd } (startD S.N args) c) :
    FnDH P w K mg base W M (k + 1) x n sp := by
  obtain ⟨oc, od, dV, kV, doc, pm, an, cdv, ct, osl, rfl, lk, hcd, _, _⟩ := F.ex
  refine ⟨f, _, ps, fun p y hy hz hf => L2H.fn_ofHp lk hcd FS (fun vs H Q E h => ?_) (fun A outer s H vs Q E hot hr h => ?_), hm, F.kp, hb⟩
  · obtain ⟨Lg, Aa, ds, c, Qd, Ed, hl, hw, hrep, _⟩ := h
    rw [hrep.len, hl, hn]
  · obtain ⟨Lg, Aa, ds, c, Qd, Ed, hl, hw, hrep, hsp, hQ, hE⟩ := h
    have go : GOk (L2H.cxH (L2N.CX P w) P w K mg base S.N x scope f cdv A outer s H E p) (mkG W false Lg Aa H noEp fun _ _ _ _ => False) := ⟨(fun _ _ ⟨_, _, _, _, _, _, _, _, _, _, _, _, _, _, _, _, z⟩ => z.elim), fun x hs ds c σ H' S ep => ep.elim⟩
    have P1 : Pin (L2H.cxH (L2N.CX P w) P w K mg base S.N x scope f cdv A outer s H E p) W.ca y p.1 := ⟨p.2, List.mem_cons_self, hz, hf⟩
    have B : Bx (L2H.cxH (L2N.CX P w) P w K mg base S.N x scope f cdv A outer s H E p) (mkG W false Lg Aa H noEp fun _ _ _ _ => False) (hotS S) M k :=
      ⟨rfl, hsc.symm, hotS_ok ok, FS.nd, (fun z => nomatch z), fun _ _ _ _ => .inl rfl, (fun z => nomatch z), fun _ => ⟨hr, p, ⟨hot.1, hot.2⟩, List.mem_cons_self⟩, go, hM⟩
    obtain ⟨t, pt, it⟩ := (hbody cdv A outer s H E p y Lg Aa _ hy P1 hot.1 B).ex
    refine ⟨t, pt, it [] (L2.start S.N vs) H (startD S.N ds) c { nx := fun _ c => Qd .non c, rt := Qd } _ ?_ (sound y p.1 ds c Qd Ed hl hsp) ⟨fun σ H' ds' c' S' q => ?_, fun σ H' ds' c' v d S' r q => ?_, fun _ _ _ _ _ z => z.elim, fun _ _ _ _ _ z => z.elim⟩⟩
    · refine ⟨.refl, hw, ?_, fun i d e => ?_, fun i d e => ?_, fun i j di dj p e => ?_, fun q hq => (nomatch hq), fun a z => z.elim⟩
      · unfold startD L2.start
        have := hrep.len
        simp only [List.length_append, List.length_map, List.length_replicate]
        omega
      · rcases startD_get e with z | ⟨d', z, e'⟩
        · cases z
        · cases z
          obtain ⟨v, ev, rv⟩ := hrep.get e'
          refine ⟨v, start_get ev, Rep.weak (fun a p _ => ⟨p.1, fun m => ?_, .inl p.2⟩) _ _ rv⟩
          rcases m with g | ⟨j, dj, ej, _⟩
          · exact g
          · rcases startD_get ej with z | ⟨_, z, _⟩ <;> cases z
      · rcases startD_get e with z | ⟨_, z, _⟩ <;> cases z
      · rcases startD_get e with z | ⟨_, z, _⟩ <;> cases z
    · exact hQ .non H' .non c' S'.same S'.winv (rep_non.mpr rfl) q
    · exact hQ v H' d c' S'.same S'.winv r q
end
end DL

set_option Elab.async false
set_option linter.all false
set_option maxRecDepth 100000
set_option maxHeartbeats 4000000
/-! DLS: the functions' equations for simp, the loops' rules. -/
namespace DL
open PySem PySem.Spec L2
abbrev dI (l : List Int) : D := .lst (l.map .int)
section
variable {K : DK} {ds : DSt} {c : Nat} {f g : DE} {g1 g2 : DS} {p p2 : DT} {fa : DA} {Q : D → Nat → Prop} {QB : Bool → Nat → Prop} {QA : List D → Nat → Prop} {i j : Nat} {ep : Ep}
@[simp] theorem sSq_e : sSq g1 g2 K ds c = g1 { K with nx := g2 K } ds c := rfl
@[simp] theorem sNx_e : sNx K ds c = K.nx ds c := rfl
@[simp] theorem sBk_e : sBk K ds c = K.bk ds c := rfl
@[simp] theorem sCt_e : sCt K ds c = K.ct ds c := rfl
@[simp] theorem sRt_e : sRt f K ds c = f ds c K.rt := rfl
@[simp] theorem sRtN_e : sRtN K ds c = K.rt .non c := rfl
@[simp] theorem sEx_e : sEx f K ds c = f ds c fun _ c' => K.nx ds c' := rfl
@[simp] theorem sIf_e : sIf p g1 g2 K ds c = p ds c fun b c' => if b = true then g1 K ds c' else g2 K ds c' := rfl
@[simp] theorem sSh_e : sSh i f K ds c = f ds c fun d c' => K.nx (ds.set i (.sh d)) c' := rfl
@[simp] theorem sOw_e : sOw i f K ds c = f ds c fun d c' => (isC d = true ∧ elF d = true) ∧ K.nx (ds.set i (.ow d)) c' := rfl
@[simp] theorem sRaise_e {x : Str} : sRaise ep x K ds c = ep x ds c := rfl
@[simp] theorem sAsg_e {tg : DG} : sAsg f tg K ds c = f ds c fun d c' => tg d ds fun ds' => K.nx ds' c' := rfl
@[simp] theorem sFor_e {fi : DI} {tg : DG} : sFor fi tg g1 K ds c = fi ds c fun xs c' => forL tg g1 K xs ds c' := rfl
@[simp] theorem gN_e {d : D} {R : DSt → Prop} : gN i d ds R = R (ds.set i (.sh d)) := rfl
@[simp] theorem gT_e {n : Nat} {h : DGs} {xs : List D} {R : DSt → Prop} : gT n h (.tup xs) ds R = (xs.length = n ∧ h xs ds R) := rfl
@[simp] theorem gsN_e {R : DSt → Prop} : gsN [] ds R = R ds := by simp [gsN]
@[simp] theorem gsC_e {h : DGs} {d : D} {xs : List D} {R : DSt → Prop} : gsC i h (d :: xs) ds R = h xs (ds.set i (.sh d)) R := rfl
@[simp] theorem eC_e {d : D} : eC d ds c Q = Q d c := rfl
@[simp] theorem eV_sh {d : D} (h : ds[i]? = some (.sh d)) : eV i ds c Q = Q d c := by simp [eV, h]
@[simp] theorem eV_ow {d : D} (h : ds[i]? = some (.ow d)) : eV i ds c Q = Q d c := by simp [eV, h]
@[simp] theorem eS_sh {d : D} (h : ds[i]? = some (.sh d)) : eS i ds c Q = Q d c := by simp [eS, h]
@[simp] theorem eR_sh {d : D} (h : ds[i]? = some (.sh d)) : eR i ds c Q = (flat d = true ∧ Q d c) := by simp [eR, h]
@[simp] theorem eR_ow {d : D} (h : ds[i]? = some (.ow d)) : eR i ds c Q = (elF d = true ∧ Q d c) := by simp [eR, h]
@[simp] theorem eFl_e : eFl f ds c Q = f ds c fun d c' => flat d = true ∧ Q d c' := rfl
@[simp] theorem eCk_e : eCk f ds c Q = f ds c fun d c' => elF d = true ∧ Q d c' := rfl
@[simp] theorem eOp2_e {op : D → D → Option D} : eOp2 op f g ds c Q = f ds c fun x c1 => g ds c1 fun y c2 => opt (op x y) c2 Q := rfl
@[simp] theorem eOp1_e {op : D → Option D} : eOp1 op f ds c Q = f ds c fun x c1 => opt (op x) c1 Q := rfl
@[simp] theorem opt_e {d : D} : opt (some d) c Q = Q d c := rfl
@[simp] theorem opt_if {b : Prop} [Decidable b] {d : D} : opt (if b then some d else none) c Q = (b ∧ Q d c) := by
  by_cases h : b <;> simp [opt, h]
@[simp] theorem aN_e : aN ds c QA = QA [] c := rfl
@[simp] theorem aC_e : aC f fa ds c QA = f ds c fun x c1 => fa ds c1 fun xs c2 => QA (x :: xs) c2 := rfl
@[simp] theorem eTup_e : eTup fa ds c Q = fa ds c fun xs c1 => xs.length ≤ sizeLine ∧ Q (.tup xs) c1 := rfl
@[simp] theorem eLst_e : eLst fa ds c Q = fa ds c fun xs c1 => xs.length ≤ sizeLine ∧ Q (.lst xs) c1 := rfl
@[simp] theorem eCall_e {op : List D → Option D} : eCall op fa ds c Q = fa ds c fun xs c1 => opt (op xs) c1 Q := rfl
@[simp] theorem eFn_e {n : Nat} {sp : FSp} : eFn ep n sp fa ds c Q = fa ds c fun xs c1 => xs.length = n ∧ sp xs c1 Q (fun x c2 => ep x ds c2) := rfl
@[simp] theorem eFnH_e {n : Nat} {sp : FSp} : eFnH n sp fa ds c Q = fa ds c fun xs c1 => xs.length = n ∧ sp xs c1 Q (fun _ _ => False) := rfl
@[simp] theorem eNt_bl {b : Bool} (h : ∀ R : D → Nat → Prop, f ds c R = R (.bl b) c) : eNt f ds c Q = Q (.bl !b) c := by simp [eNt, h]
@[simp] theorem tB_e : tB f ds c QB = f ds c fun d c' => match d with | .bl b => QB b c' | _ => False := by
  unfold tB
  rfl
@[simp] theorem tNt_e : tNt p ds c QB = p ds c fun b c' => QB (!b) c' := rfl
@[simp] theorem tAn_e : tAn p p2 ds c QB = p ds c fun b c' => if b = true then p2 ds c' QB else QB false c' := rfl
@[simp] theorem tOr_e : tOr_ p p2 ds c QB = p ds c fun b c' => if b = true then QB true c' else p2 ds c' QB := rfl
@[simp] theorem tYes_e : tYes_ ds c QB = QB true c := rfl
@[simp] theorem eDct_e : eDct ds c Q = Q (.dct [] []) c := rfl
@[simp] theorem dAdd_i {a b : Int} : dAdd (.int a) (.int b) = some (.int (a + b)) := rfl
@[simp] theorem dSub_i {a b : Int} : dSub (.int a) (.int b) = some (.int (a - b)) := rfl
@[simp] theorem dMod_i {a b : Int} : dMod (.int a) (.int b) = if 0 < b then some (.int (a % b)) else none := by unfold dMod dInt; split <;> simp_all
@[simp] theorem dDiv_i {a b : Int} : dDiv (.int a) (.int b) = if 0 < b ∧ b < 1073741824 then some (.int (a / b)) else none := by
  show (if 0 < b ∧ b < 1073741824 then some (a / b) else none).map D.int = _
  split <;> rfl
theorem dMod_i' {a b : Int} : (dInt fun i j => if 0 < j then some (i % j) else none) (.int a) (.int b) = if 0 < b then some (.int (a % b)) else none := by
  show (if 0 < b then some (a % b) else none).map D.int = _
  split <;> rfl
@[simp] theorem dPow_i {a b : Int} : dPow (.int a) (.int b) = if 0 ≤ b ∧ b ≤ 1000000 ∧ a.natAbs < 2 ^ 64 then some (.int (a ^ b.toNat)) else none := by
  show (if 0 ≤ b ∧ b ≤ 1000000 ∧ a.natAbs < 2 ^ 64 then some (a ^ b.toNat) else none).map D.int = _
  split <;> rfl
@[simp] theorem dShl_i {a b : Int} : dShl (.int a) (.int b) = if 0 ≤ b ∧ b ≤ 1000000 ∧ a.natAbs < 2 ^ 64 then some (.int (a * 2 ^ b.toNat)) else none := by
  show (if 0 ≤ b ∧ b ≤ 1000000 ∧ a.natAbs < 2 ^ 64 then some (a * 2 ^ b.toNat) else none).map D.int = _
  split <;> rfl
@[simp] theorem dShr_i {a b : Int} : dShr (.int a) (.int b) = if 0 ≤ b then some (.int (a / 2 ^ b.toNat)) else none := by
  show (if 0 ≤ b then some (a / 2 ^ b.toNat) else none).map D.int = _
  split <;> rfl
@[simp] theorem dAnd_i {a b : Int} : dAnd (.int a) (.int b) = some (.int (Builtin.bitAnd a b)) := rfl
@[simp] theorem dOr_i {a b : Int} : dOr (.int a) (.int b) = some (.int (Builtin.bitOr a b)) := rfl
@[simp] theorem dXor_i {a b : Int} : dXor (.int a) (.int b) = some (.int (Builtin.bitXor a b)) := rfl
@[simp] theorem dMul_i {a b : Int} : dMul (.int a) (.int b) = if (-(2 ^ 64) < a ∧ a < 2 ^ 64) ∨ (-(2 ^ 64) < b ∧ b < 2 ^ 64) then some (.int (a * b)) else none := rfl
@[simp] theorem dMul_l {xs : List D} {k : Int} : dMul (.lst xs) (.int k) = if k < 2 ^ 63 ∧ -(2 ^ 63) ≤ k ∧ xs.length * k.toNat ≤ sizeLine ∧ flatL xs = true then some (.lst (List.replicate k.toNat xs).flatten) else none := rfl
@[simp] theorem dAdd_l {xs ys : List D} : dAdd (.lst xs) (.lst ys) = if xs.length + ys.length ≤ sizeLine ∧ flatL xs = true ∧ flatL ys = true then some (.lst (xs ++ ys)) else none := rfl
@[simp] theorem dLt_i {a b : Int} : dLt (.int a) (.int b) = some (.bl (decide (a < b))) := rfl
@[simp] theorem dLe_i {a b : Int} : dLe (.int a) (.int b) = some (.bl (decide (a ≤ b))) := rfl
@[simp] theorem dGt_i {a b : Int} : dGt (.int a) (.int b) = some (.bl (decide (b < a))) := rfl
@[simp] theorem dGe_i {a b : Int} : dGe (.int a) (.int b) = some (.bl (decide (b ≤ a))) := rfl
@[simp] theorem dEq_i {a b : Int} : dEq (.int a) (.int b) = some (.bl (decide (a = b))) := by
  show some (D.bl (a == b)) = _
  rw [Bool.beq_eq_decide_eq]
@[simp] theorem dNe_i {a b : Int} : dNe (.int a) (.int b) = some (.bl !(decide (a = b))) := by
  show some (D.bl !(a == b)) = _
  rw [Bool.beq_eq_decide_eq]
@[simp] theorem dLen_l {xs : List D} : dLen [.lst xs] = some (.int xs.length) := rfl
@[simp] theorem dLen_s {xs : List Int} : dLen [.scr xs] = some (.int xs.length) := rfl
@[simp] theorem dLen_t {xs : List D} : dLen [.tup xs] = some (.int xs.length) := rfl
@[simp] theorem dIx_ints {l : List Int} {k : Int} : dIx (dI l) (.int k) = (atI l k).map .int := by
  unfold dIx dIxA dI
  simp only [atI_map]
  cases atI l k <;> simp [flat]
@[simp] theorem dIx_scr {l : List Int} {k : Int} : dIx (.scr l) (.int k) = (atI l k).map .int := by
  unfold dIx dIxA
  simp only []
  cases atI l k <;> simp [flat]
theorem dIx_l {l : List D} {k : Int} {d : D} (h : atI l k = some d) (hf : flat d = true) : dIx (.lst l) (.int k) = some d := by simp [dIx, dIxA, h, hf]
theorem dIx_t {l : List D} {k : Int} {d : D} (h : atI l k = some d) (hf : flat d = true) : dIx (.tup l) (.int k) = some d := by simp [dIx, dIxA, h, hf]
@[simp] theorem flat_int {k : Int} : flat (.int k) = true := rfl
@[simp] theorem flat_bl {k : Bool} : flat (.bl k) = true := rfl
@[simp] theorem flat_str {k : Str} : flat (.str k) = true := rfl
@[simp] theorem flat_non : flat .non = true := rfl
@[simp] theorem flat_tup {xs : List D} : flat (.tup xs) = flatL xs := rfl
@[simp] theorem flatL_nil : flatL [] = true := rfl
@[simp] theorem flatL_cons {x : D} {xs : List D} : flatL (x :: xs) = (flat x && flatL xs) := rfl
@[simp] theorem flatL_i {l : List Int} : flatL (l.map .int) = true := flatL_ints l
@[simp] theorem elF_l {xs : List D} : elF (.lst xs) = flatL xs := rfl
@[simp] theorem elF_d {ks : List Key} {xs : List D} : elF (.dct ks xs) = flatL xs := rfl
@[simp] theorem isC_l {xs : List D} : isC (.lst xs) = true := rfl
@[simp] theorem isC_d {ks : List Key} {xs : List D} : isC (.dct ks xs) = true := rfl
@[simp] theorem dTuple_i {xs : List D} : dTuple [.lst xs] = if flatL xs = true then some (.tup xs) else none := rfl
@[simp] theorem dList_l {xs : List D} : dList [.lst xs] = if flatL xs = true then some (.lst xs) else none := rfl
@[simp] theorem dList_t {xs : List D} : dList [.tup xs] = if flatL xs = true then some (.lst xs) else none := rfl
@[simp] theorem dSum_i {l : List Int} : dSum [dI l] = some (.int l.sum) := by simp [dSum, toInts_map]
theorem atI_nat {α : Type} {l : List α} {k : Nat} (h : k < l.length) : atI l (k : Int) = some l[k] := by
  unfold atI ixN
  simp [h]
theorem atI_get {α : Type} {l : List α} {k : Int} (h0 : 0 ≤ k) (h : k < l.length) : atI l k = l[k.toNat]? := by
  unfold atI ixN
  simp [h0, h]
theorem atI_some {α : Type} {l : List α} {k : Int} (h0 : 0 ≤ k) (h : k < l.length) : ∃ x, atI l k = some x ∧ x ∈ l := by
  rw [atI_get h0 h]
  have : k.toNat < l.length := by omega
  exact ⟨l[k.toNat], by simp [this], List.getElem_mem _⟩
theorem atI_last {α : Type} {l : List α} (h : l ≠ []) : ∃ x, atI l (-1) = some x ∧ x ∈ l := by
  have hl : 0 < l.length := List.length_pos_iff.mpr h
  unfold atI ixN
  have h1 : ¬ (0 : Int) ≤ -1 := by decide
  have h2 : -(l.length : Int) ≤ -1 := by omega
  rw [if_neg h1, if_pos h2]
  have h3 : ((-1 : Int) + l.length).toNat < l.length := by omega
  exact ⟨l[((-1 : Int) + l.length).toNat], by simp [h3], List.getElem_mem _⟩
@[simp] theorem iEn_l {f : DE} {R : List D → Nat → Prop} : iEn f ds c R = f ds c fun d c' => match d with | .lst xs => R (enumD 0 xs) c' | _ => False := rfl
@[simp] theorem iSq_l {f : DE} {R : List D → Nat → Prop} : iSq f ds c R = f ds c fun d c' => match dSeq d with | some xs => R xs c' | none => False := rfl
@[simp] theorem iR1_l {fa : DA} {R : List D → Nat → Prop} : iR1 fa ds c R = fa ds c fun xs c' => match xs with | [.int j] => fit j ∧ R (ups 0 1 j.toNat) c' | _ => False := by
  unfold iR1
  rfl
@[simp] theorem iRv_l {f : DE} {R : List D → Nat → Prop} : iRv f ds c R = f ds c fun d c' => match d with | .lst xs => R xs.reverse c' | _ => False := by
  unfold iRv
  rfl
@[simp] theorem iRvR_l {f : DE} {R : List D → Nat → Prop} : iRvR f ds c R = f ds c fun d c' => match d with | .int n => (-(2 ^ 62) ≤ n ∧ n < 2 ^ 62) ∧ R (ups (0 + ((n - 0).toNat : Nat) - 1) (-1) (n - 0).toNat) c' | _ => False := rfl
@[simp] theorem dSeq_l {xs : List D} : dSeq (.lst xs) = some xs := rfl
@[simp] theorem dSeq_t {xs : List D} : dSeq (.tup xs) = some xs := rfl
@[simp] theorem dSeq_s {xs : List Int} : dSeq (.scr xs) = some (xs.map .int) := rfl
@[simp] theorem sIxS_ow {xs : List D} {fk : DE} (h : ds[i]? = some (.ow (.lst xs))) : sIxS i f fk K ds c = f ds c fun d c1 => fk ds c1 fun y c2 => match y with
    | .int n => (match ixN xs.length n with | some j => K.nx (ds.set i (.ow (.lst (xs.set j d)))) c2 | none => False)
    | _ => False := by
  simp [sIxS, h] <;> rfl
@[simp] theorem sApp_ow {xs : List D} (h : ds[i]? = some (.ow (.lst xs))) : sApp i f K ds c = f ds c fun d c1 => xs.length < sizeLine ∧ K.nx (ds.set i (.ow (.lst (xs ++ [d])))) c1 := by simp [sApp, h]
@[simp] theorem sExt_ow {xs : List D} (h : ds[i]? = some (.ow (.lst xs))) : sExt i f K ds c = f ds c fun d c1 => match d with
    | .lst ys => (flatL ys = true ∧ xs.length + ys.length ≤ sizeLine) ∧ K.nx (ds.set i (.ow (.lst (xs ++ ys)))) c1
    | _ => False := by
  simp [sExt, h] <;> rfl
@[simp] theorem sDPt_ow {ks : List Key} {es : List D} {fk : DE} (h : ds[i]? = some (.ow (.dct ks es))) : sDPt i f fk K ds c = f ds c fun d c1 => fk ds c1 fun y c2 => match toKey y with
    | some k => ks.length < sizeLine ∧ K.nx (ds.set i (.ow (.dct (dPut ks es k d).1 (dPut ks es k d).2))) c2
    | none => False := by
  simp [sDPt, h] <;> rfl
@[simp] theorem sAu_sh {d : D} {op : D → D → Option D} (h : ds[i]? = some (.sh d)) : sAu i op f K ds c = f ds c fun y c1 => match op d y with
    | some z => flat z = true ∧ K.nx (ds.set i (.sh z)) c1
    | none => False := by
  simp [sAu, h] <;> rfl
@[simp] theorem eLc_e {fi : DI} {tg : DG} {cond : DT} {elt : DE} {vs : List Nat} : eLc fi tg cond elt vs ds c Q = fi ds c fun xs c' => noOw ds vs = true ∧ lcL tg cond elt (wipeD ds vs) Q xs [] c' := rfl
@[simp] theorem eSoS_i {l : List Int} (h : ∀ R : D → Nat → Prop, f ds c R = R (dI l) c) : eSoS f ds c Q = ((∃ L : List Int, (∀ z ∈ l, z ∈ L) ∧ L.length + 1 < scanBound) ∧ ∀ ns' : List Int, ns'.Pairwise (· < ·) → (∀ k, k ∈ ns' ↔ k ∈ l) → Q (.lst (ns'.map .int)) c) := by
  unfold eSoS
  rw [h]
  simp only [toInts_map]
theorem noOw_one {s : Sl} (h : ds[i]? = some s) (hs : ∀ d, s ≠ .ow d) : noOw ds [i] = true := by
  unfold noOw
  simp only [List.all_cons, List.all_nil, Bool.and_true, h]
  cases s with
  | ow d => exact absurd rfl (hs d)
  | _ => rfl
theorem dIx_d {ks : List Key} {es : List D} {k : Int} {d : D} (h : dLook ks es (.inl k) = some d) (hf : flat d = true) : dIx (.dct ks es) (.int k) = some d := by
  have e : dIxA (.dct ks es) (.int k) = some d := h
  unfold dIx
  rw [e]
  simp [hf]
@[simp] theorem toKey_i {k : Int} : toKey (.int k) = some (.inl k) := rfl
theorem dPut_len {ks : List Key} {es : List D} {k : Key} {d : D} (h : ks.length = es.length) : (dPut ks es k d).1.length = (dPut ks es k d).2.length ∧ (dPut ks es k d).1.length ≤ ks.length + 1 := by
  unfold dPut
  split
  · simp [h]
  · simp [h]
theorem dLook_zip {k : Key} {d : D} {j : Key} : ∀ {ks : List Key} {es : List D}, ks.length = es.length → dLook ks (List.zipWith (fun i e => if i = k then d else e) ks es) j = if k = j then (dLook ks es j).map (fun _ => d) else dLook ks es j
  | [], [], _ => by simp [dLook]
  | i :: ks, e :: es, h => by
    have ih := dLook_zip (k := k) (d := d) (j := j) (ks := ks) (es := es) (by simpa using h)
    simp only [List.zipWith_cons_cons, dLook]
    rw [ih]
    by_cases hij : i = j
    · subst hij
      by_cases hik : i = k
      · subst hik; simp
      · simp only [hik, if_false, if_true]
        rw [if_neg fun z : k = i => hik z.symm]
    · simp only [hij, if_false]
  | [], _ :: _, h => by cases h
  | _ :: _, [], h => by cases h
theorem dLook_in {k : Key} : ∀ {ks : List Key} {es : List D}, ks.length = es.length → k ∈ ks → ∃ d, dLook ks es k = some d
  | i :: ks, e :: es, h, hm => by
    simp only [dLook]
    by_cases hik : i = k
    · exact ⟨e, by simp [hik]⟩
    · obtain ⟨d, hd⟩ := dLook_in (ks := ks) (es := es) (by simpa using h) ((List.mem_cons.mp hm).resolve_left fun z => hik z.symm)
      exact ⟨d, by simp [hik, hd]⟩
  | [], _, _, hm => by cases hm
  | _ :: _, [], h, _ => by cases h
theorem dLook_app {k : Key} {d : D} {j : Key} : ∀ {ks : List Key} {es : List D}, ks.length = es.length → k ∉ ks → dLook (ks ++ [k]) (es ++ [d]) j = if k = j then some d else dLook ks es j
  | [], [], _, _ => by simp [dLook]
  | i :: ks, e :: es, h, hn => by
    have ih := dLook_app (k := k) (d := d) (j := j) (ks := ks) (es := es) (by simpa using h) (fun z => hn (List.mem_cons_of_mem _ z))
    simp only [List.cons_append, dLook]
    rw [ih]
    by_cases hij : i = j
    · subst hij
      have : k ≠ i := fun z => hn (by rw [z]; exact List.mem_cons_self)
      simp [this]
    · simp [hij]
  | [], _ :: _, h, _ => by cases h
  | _ :: _, [], h, _ => by cases h
theorem dLook_put {ks : List Key} {es : List D} {k : Key} {d : D} {j : Key} (h : ks.length = es.length) : dLook (dPut ks es k d).1 (dPut ks es k d).2 j = if k = j then some d else dLook ks es j := by
  unfold dPut
  split
  · next hh =>
    have hm : k ∈ ks := by
      obtain ⟨i, hi, e⟩ := List.any_eq_true.mp hh
      rw [← of_decide_eq_true e]; exact hi
    rw [dLook_zip h]
    split
    · next e =>
      subst e
      obtain ⟨d', hd⟩ := dLook_in h hm
      rw [hd]
      rfl
    · rfl
  · next hh =>
    have hm : k ∉ ks := fun hm => hh (List.any_eq_true.mpr ⟨k, hm, decide_eq_true rfl⟩)
    simp only [dLook_app h hm]
theorem dPut_all {P : D → Prop} {ks : List Key} {es : List D} {k : Key} {d : D} (h : ∀ e ∈ es, P e) (hd : P d) : ∀ e ∈ (dPut ks es k d).2, P e := by
  unfold dPut
  split
  · intro e he
    have key : ∀ (ks : List Key) (es : List D), (∀ e ∈ es, P e) → ∀ e ∈ List.zipWith (fun j e => if j = k then d else e) ks es, P e := by
      intro ks
      induction ks with
      | nil => intro es _ e he; simp at he
      | cons j ks ih =>
        intro es h e he
        cases es with
        | nil => simp at he
        | cons e0 es =>
          simp only [List.zipWith_cons_cons, List.mem_cons] at he
          rcases he with rfl | he
          · split
            · exact hd
            · exact h e0 List.mem_cons_self
          · exact ih es (fun e he => h e (List.mem_cons_of_mem _ he)) e he
    exact key ks es h e he
  · intro e he
    rw [List.mem_append, List.mem_singleton] at he
    rcases he with he | rfl
    · exact h e he
    · exact hd
theorem flatL_of {xs : List D} (h : ∀ x ∈ xs, flat x = true) : flatL xs = true := flatL_all.mpr h
theorem ints_of_all {xs : List D} (h : ∀ x ∈ xs, ∃ i, x = D.int i) : ∃ l : List Int, xs = l.map .int := by
  induction xs with
  | nil => exact ⟨[], rfl⟩
  | cons x xs ih =>
    obtain ⟨i, rfl⟩ := h x List.mem_cons_self
    obtain ⟨l, rfl⟩ := ih fun y hy => h y (List.mem_cons_of_mem _ hy)
    exact ⟨i :: l, rfl⟩
theorem ixN_in {n : Nat} {k : Int} (h0 : 0 ≤ k) (h : k < n) : ixN n k = some k.toNat := by simp [ixN, h0, h]
end
/-! ### loops -/
/-- a for-loop's invariant over the data to come -/
theorem forL_inv {tg : DG} {body : DS} {K : DK} (I : List D → DSt → Nat → Prop)
    (step : ∀ (x : D) (r : List D) (ds : DSt) (c : Nat) (nx : DSt → Nat → Prop), I (x :: r) ds c → (∀ ds c, I r ds c → nx ds c) → tg x ds fun ds' => body { K with nx := nx, ct := nx, bk := K.nx } ds' c)
    (fin : ∀ ds c, I [] ds c → K.nx ds c) : ∀ (xs : List D) (ds : DSt) (c : Nat), I xs ds c → forL tg body K xs ds c
  | [], ds, c, h => fin ds c h
  | x :: r, ds, c, h => step x r ds c _ h fun ds' c' h' => forL_inv I step fin r ds' c' h'
theorem lcL_inv {tg : DG} {cond : DT} {elt : DE} {ds0 : DSt} {Q : D → Nat → Prop} (I : List D → List D → Nat → Prop)
    (step : ∀ (x : D) (r acc : List D) (c : Nat) (nx : List D → Nat → Prop), I (x :: r) acc c → (∀ acc c, I r acc c → nx acc c) → tg x ds0 fun ds' => cond ds' c fun b c1 => if b = true then elt ds' c1 fun d c2 => acc.length < sizeLine ∧ nx (acc ++ [d]) c2 else nx acc c1)
    (fin : ∀ acc c, I [] acc c → Q (.lst acc) c) : ∀ (xs acc : List D) (c : Nat), I xs acc c → lcL tg cond elt ds0 Q xs acc c
  | [], acc, c, h => fin acc c h
  | x :: r, acc, c, h => step x r acc c (fun acc c => lcL tg cond elt ds0 Q r acc c) h fun acc' c' h' => lcL_inv I step fin r acc' c' h'
/-- .. of a map: each datum gives one -/
theorem lcL_map {α : Type} {tg : DG} {elt : DE} {ds0 : DSt} {Q : D → Nat → Prop} {c : Nat} (e : α → D) (h : α → D) (l : List α) (hl : l.length ≤ sizeLine)
    (step : ∀ (x : α) (Q' : D → Nat → Prop), x ∈ l → Q' (h x) c → tg (e x) ds0 fun ds' => elt ds' c Q')
    (fin : Q (.lst (l.map h)) c) : lcL tg tYes_ elt ds0 Q (l.map e) [] c := by
  have key : ∀ (r done : List α), done ++ r = l → lcL tg tYes_ elt ds0 Q (r.map e) (done.map h) c := by
    intro r
    induction r with
    | nil =>
      intro done hd
      rw [List.append_nil] at hd
      subst hd
      exact fin
    | cons x r ih =>
      intro done hd
      have hx : x ∈ l := by rw [← hd]; simp
      refine step x _ hx ⟨?_, ?_⟩
      · have := congrArg List.length hd
        simp only [List.length_append, List.length_cons] at this
        rw [List.length_map]
        omega
      · have q := ih (done ++ [x]) (by rw [List.append_assoc]; exact hd)
        rw [List.map_append] at q
        exact q
  exact key l [] rfl
/-- .. of a choice with map -/
theorem lcL_filter {α : Type} {tg : DG} {cond : DT} {elt : DE} {ds0 : DSt} {Q : D → Nat → Prop} {c : Nat} (e : α → D) (p : α → Bool) (h : α → D) (l : List α) (hl : l.length ≤ sizeLine)
    (step : ∀ (x : α) (QT QF : Nat → Prop) (Q' : D → Nat → Prop), x ∈ l → (p x = true → Q' (h x) c) → (p x = false → QF c) → tg (e x) ds0 fun ds' => cond ds' c fun b c1 => if b = true then elt ds' c1 Q' else QF c1)
    (fin : Q (.lst ((l.filter p).map h)) c) : lcL tg cond elt ds0 Q (l.map e) [] c := by
  have key : ∀ (r done : List α), done ++ r = l → lcL tg cond elt ds0 Q (r.map e) ((done.filter p).map h) c := by
    intro r
    induction r with
    | nil =>
      intro done hd
      rw [List.append_nil] at hd
      subst hd
      exact fin
    | cons x r ih =>
      intro done hd
      have hx : x ∈ l := by rw [← hd]; simp
      refine step x (fun _ => True) _ _ hx (fun hp => ⟨?_, ?_⟩) (fun hp => ?_)
      · have := congrArg List.length hd
        simp only [List.length_append, List.length_cons] at this
        have := List.length_filter_le p done
        rw [List.length_map]
        omega
      · have q := ih (done ++ [x]) (by rw [List.append_assoc]; exact hd)
        rw [List.filter_append, List.map_append] at q
        simpa [hp] using q
      · have q := ih (done ++ [x]) (by rw [List.append_assoc]; exact hd)
        rw [List.filter_append, List.map_append] at q
        simpa [hp] using q
  exact key l [] rfl
end DL

set_option Elab.async false
set_option linter.all false
set_option maxRecDepth 100000
set_option maxHeartbeats 4000000
/-! DL16: the head's facts, the end. -/
namespace DL
open PySem PySem.Spec PyProof.Rows L2
def excCB (K : PySem.W.Frag) (D : Addr) : Bool :=
  He.eqO (PySem.W.findIn K (.ref D) "__getattribute__") (some (some (.builtin "BaseException.__getattribute__"))) && He.eqO (PySem.W.findIn K (.ref D) "__getattr__") (some none) &&
  decide (PySem.W.subIn K (.ref D) (.type "BaseException") = some true) && PySem.W.hasDictIn K D && He.eqO (PySem.W.findIn K (.ref D) "__class__") (some (some (.builtin "object.__class__"))) &&
  He.eqO (PySem.W.specialIn K (.builtin "object.__class__") "__get__") (some (some (.builtin "getset_descriptor.__get__"))) && decide (PySem.W.takesIn K (.builtin "object.__class__") = some true) && decide (PySem.W.mroIn K D (.type "object") = some true)
theorem excC_of {K : PySem.W.Frag} {D : Addr} (h : excCB K D = true) : ExcC K D := by
  unfold excCB at h
  simp only [Bool.and_eq_true] at h
  obtain ⟨⟨⟨⟨⟨⟨⟨h1, h2⟩, h3⟩, h4⟩, h5⟩, h6⟩, h7⟩, h8⟩ := h
  exact ⟨He.eqO_ok h1, He.eqO_ok h2, of_decide_eq_true h3, h4, He.eqO_ok h5, He.eqO_ok h6, of_decide_eq_true h7, of_decide_eq_true h8⟩
def noLst (K : PySem.W.Frag) : Bool := K.all fun q => match q.2.cls with | .type c => !(decide (c = "list")) | _ => true
def exB (M : MGd) (K : PySem.W.Frag) : Bool := noLst K && M.xs.all (fun x => excCB K (He.ga K x)) && M.xs.all (fun x => M.crs.all fun c => decide (PySem.W.kitOne K (.ref (He.ga K x)) (c.v (He.ga K)) = some (M.isB x c))) &&
  M.xs.all fun x => M.xs.all fun y => decide (PySem.W.exmOne K (.ref (He.ga K x)) (.ref (He.ga K y)) = some (M.sub x y))
def faM (M : MGd) : List He.Fa := M.fr.map .free ++ M.xs.map .glo ++ M.xs.map .exc ++ M.gi.map (fun p => .int p.1 p.2) ++ M.gt.map fun p => .str p.1 p.2
theorem mg_of {M : MGd} {K : PySem.W.Frag} {h : Heap} {mg : Str → Option Value} (KX : K.In h) (G : h.Ns mainGlobals mg) (hf : ∀ f ∈ faM M, f.ok K = true) (hx : exB M K = true) : Mg M K mg (He.ga K) := by
  unfold exB at hx
  simp only [Bool.and_eq_true, List.all_eq_true] at hx
  obtain ⟨⟨⟨_, x1⟩, x2⟩, x3⟩ := hx
  refine ⟨fun {i x} e => ?_, fun {i x n} e => ?_, fun {i x z} e => ?_, fun {i x} e => ?_, fun {x} e => excC_of (x1 x e), fun {x c} h1 h2 => of_decide_eq_true (x2 x h1 c h2), fun {x y} h1 h2 => of_decide_eq_true (x3 x h1 y h2)⟩
  · refine He.free_ok KX G (hf (.free x) ?_)
    unfold faM
    simp only [List.mem_append]
    exact .inl (.inl (.inl (.inl (List.mem_map_of_mem (List.mem_of_getElem? e)))))
  · refine He.int_ok KX G (hf (.int x n) ?_)
    unfold faM
    simp only [List.mem_append]
    exact .inl (.inr (List.mem_map_of_mem (f := fun p : Str × Int => He.Fa.int p.1 p.2) (List.mem_of_getElem? e)))
  · refine He.str_ok KX G (hf (.str x z) ?_)
    unfold faM
    simp only [List.mem_append]
    exact .inr (List.mem_map_of_mem (f := fun p : Str × Str => He.Fa.str p.1 p.2) (List.mem_of_getElem? e))
  · have g := He.glo_ok KX G (hf (.glo x) (by
      unfold faM
      simp only [List.mem_append]
      exact .inl (.inl (.inl (.inr (List.mem_map_of_mem (List.mem_of_getElem? e))))))) 
    obtain ⟨c1, c2, c3, c4⟩ := He.exc_ok (hf (.exc x) (by
      unfold faM
      simp only [List.mem_append]
      exact .inl (.inl (.inr (List.mem_map_of_mem (List.mem_of_getElem? e))))))
    exact ⟨g, c1, c2, c3, c4⟩
theorem mem_lookup {α β : Type} [BEq α] [LawfulBEq α] : ∀ {l : List (α × β)} {a : α} {b : β}, l.lookup a = some b → (a, b) ∈ l
  | [], a, b, h => by cases h
  | (x, y) :: l, a, b, h => by
    rw [List.lookup_cons] at h
    split at h
    · next z =>
      rw [eq_of_beq z]
      cases h
      exact List.mem_cons_self
    · exact List.mem_cons_of_mem _ (mem_lookup h)
theorem noLst_ok {K : PySem.W.Frag} (h : noLst K = true) {a : Addr} {o : Obj} (e : K.lookup a = some o) : o.cls ≠ .type "list" := fun c => by
  have m := mem_lookup e
  have q := List.all_eq_true.mp h _ m
  simp only [c] at q
  cases q
/-- the law's promise at its call -/
theorem lift_law {W : Wd} {K : PySem.W.Frag} {sp : FSp} (hW : W.T = []) (hn : noLst K = true) (hsp : ∀ ns c Q E, Q (.bl true) c → sp [.scr ns] c Q E) {H : Hp} {a : Addr} {ns : List Int} (hO : Only H) (hS : SqL K H a (ns.map V.int)) : liftSp W 1 false sp [.ref a] H (fun v _ => v = .bl true) fun _ _ _ => False := by
  have e : ∃ o, H a = some (.frz o (.lst (ns.map V.int))) := by
    rcases hS with h | ⟨o, its, n, h1, h2, _⟩
    · rcases h with h | h
      · rcases hO a with z | ⟨o, xs, z⟩
        · rw [z] at h; cases h
        · rw [z] at h; cases h
      · exact h
    · exact absurd h2 (noLst_ok hn h1)
  obtain ⟨o, e⟩ := e
  refine ⟨fun _ => none, fun _ => True, [.scr ns], 0, fun d _ => d = .bl true, fun _ _ => False, rfl, ?_, ?_, hsp ns 0 _ _ rfl, ?_, fun _ _ _ _ _ z => z.elim⟩
  · exact ⟨(by rw [hW]; intro p hp; cases hp), fun _ _ z => nomatch z⟩
  · exact .cons (rep_scr.mpr ⟨a, o, rfl, e⟩) .nil
  · rintro v H' d c' _ _ r rfl
    exact rep_bl.mp r
theorem walk_ofW {l : PySem.W.OpenLaw} {n k : Nat} {q : Program} {loose : List Str} {XP : (Str → Option Value) → Heap → Prop} {YP : World → Heap → Prop} {d : DefRec} {x : Str}
    (hn : l.most = some n) (hn2 : n ≤ sizeLine) (hdf : d.params.defaults = []) (hr : Room k callerA)
    (F : ∀ (w : World) (mg : Str → Option Value) (fa : Addr) (h : Heap), YP w h → h.Ns mainGlobals mg → mg d.name = some (.ref fa) →
      ∃ (K : PySem.W.Frag) (fd : FuncData) (sp : Sp), K.In h ∧ (∀ (s : Shared) (u : Value), BindsTo s fd ⟨[u], []⟩ [(x, u)]) ∧
        (∀ (H : Hp) (a : Addr) (ns : List Int), ns.length ≤ n → Only H → SqL K H a (ns.map V.int) → sp [.ref a] H (fun v _ => v = .bl true) fun _ _ _ => False) ∧
        ∀ base : Heap, K.In base → base.Ns mainGlobals mg → FnOk l.prog w K mg base (L2N.CX l.prog w) k fa fd [x] sp) :
    PySem.W.WalkO q loose XP YP l.row.toRowW d [] (fun f vs => PySem.call f vs) := by
  refine Att.attach_call hn hdf fun w s₀ s₁ mg mb fa o pm cd doc a vs ns G Y ho hd hcd hmg hobj hints hlen hg => ?_
  obtain ⟨K, fd, sp, KX, hb, hsp, hF⟩ := F w mg fa _ Y G.T.g hmg
  refine law_call KX G.T.g G.T.b G.T.builtins G.T.nolimit hg hobj hints (Nat.le_trans hlen hn2) hr hF hb (fun H hO hS => hsp H a ns hlen hO hS) fun H e s' z => ?_
  obtain ⟨_, _, _, _, _, _, _, _, _, _, _, _, z⟩ := z
  exact z.elim
end DL

set_option Elab.async false
set_option linter.all false
set_option maxRecDepth 100000
set_option maxHeartbeats 4000000
namespace LW
open PySem PySem.Spec L2 DL
def bit01 (l : List Int) : Prop := ∀ b ∈ l, b = 0 ∨ b = 1
def sp_packed : FSp := fun args c Q E => ∃ bits : List Int, args = [dI bits] ∧ bits.length ≤ 4096 ∧ bit01 bits ∧ ∀ bl : List Int, bl.length = (bits.length + 31) / 32 → Q (dI bl) c
def sp_ones_in : FSp := fun args c Q E => ∃ b n : Int, args = [.int b, .int n] ∧ (0 ≤ n ∧ n ≤ 1000) ∧ ∀ v : Int, Q (.int v) c
def sp_ones_table : FSp := fun args c Q E => ∃ bl : List Int, args = [dI bl] ∧ bl.length ≤ 1000 ∧ ∀ t : List Int, Q (.tup (t.map .int)) c
def sp_kept_row : FSp := fun args c Q E => ∃ bits : List Int, args = [dI bits] ∧ bits.length ≤ 4096 ∧ bit01 bits ∧ ∀ t bl : List Int, bl.length ≤ 129 → Q (.tup [.tup [.int bits.length, .tup (t.map .int)], dI bl]) c
def sp_levels_for : FSp := fun args c Q E => ∃ k : Int, args = [.int k] ∧ k ≤ 4096 ∧ ∀ v : Int, 0 ≤ v → v ≤ 12 → Q (.int v) c
def FARV : Int := 10 ^ 60
def farS (s : Int) : Prop := s ≤ -FARV ∨ FARV ≤ s
def sp_kept_signs : FSp := fun args c Q E => ∃ s : List Int, args = [dI s] ∧ (4096 < s.length → E "TooMany" c) ∧ (s.length ≤ 4096 → (∃ x ∈ s, farS x) → E "NoSign" c) ∧
  (s.length ≤ 4096 → (∀ x ∈ s, ¬ farS x) → (∃ L : List Int, (∀ z ∈ s, z ∈ L) ∧ L.length + 1 < scanBound) ∧ ∀ (x y : D) (z : List Int), flat x = true → flat y = true → Q (.tup [.tup [.int s.length, x, y], dI z]) c)
def sp__law_cell_at : FSp := fun args c Q E => ∃ (s : List Int) (k : Int), args = [.scr s, .int k] ∧ 0 ≤ k ∧ Q (.int (if k < s.length then s.getD k.toNat 0 else 0)) c
def sp__law_whole : FSp := fun args c Q E => ∃ d : D, args = [d] ∧ (tyS d).isSome = true ∧ Q (.bl (isTy "int" d && !isTy "bool" d)) c
def sp__law_others : Str → Addr → FSp := fun x a args c Q E => args = [.exc a 0] ∧ (x = "TooMany" ∨ x = "NoSign") ∧ Q (.bl false) c
/-- what is told: too many, far, or kept -/
def told (s : List Int) : List D := if 4096 < s.length then [.int 1, .bl true, .bl true, .bl false, .bl false] else if s.any (fun x => decide (x ≤ -FARV) || decide (FARV ≤ x)) then [.int 2, .bl true, .bl true, .bl false, .bl false] else [.int 0]
def sp__law_told : FSp := fun args c Q E => ∃ s : List Int, args = [dI s] ∧ (s.length ≤ 4096 → ∃ L : List Int, (∀ z ∈ s, z ∈ L) ∧ L.length + 1 < scanBound) ∧ Q (.lst (told s)) c
def due (n : Nat) (bad : Bool) : List D := if 4096 < n then [.int 1, .bl true, .bl true, .bl false, .bl false] else if bad then [.int 2, .bl true, .bl true, .bl false, .bl false] else [.int 0]
def sp__law_due : FSp := fun args c Q E => ∃ (s : List Int) (b : Bool), args = [dI s, .bl b] ∧ Q (.lst (due s.length b)) c
def sp_law : FSp := fun args c Q E => ∃ s : List Int, args = [.scr s] ∧ Q (.bl true) c
end LW

set_option Elab.async false
set_option linter.all false
set_option maxRecDepth 100000
set_option maxHeartbeats 4000000
namespace LW
open PySem PySem.Spec L2 DL
def top (i : Nat) : Stmt := PySem.Challenge.pw_thinwood_k61_signs_refused.main.body.getD i (.Pass ⟨0, 0, 0, 0⟩)
def subs (x : Str) : List Str := if x == "WoodError" then ["WoodError"] else if x == "TooMany" then ["WoodError", "TooMany"] else if x == "NoBit" then ["WoodError", "NoBit"] else if x == "NoPlace" then ["WoodError", "NoPlace"] else if x == "NoNode" then ["WoodError", "NoNode"] else if x == "NoTree" then ["WoodError", "NoTree"] else if x == "NoSign" then ["WoodError", "NoSign"] else if x == "NoWord" then ["WoodError", "NoWord"] else if x == "Twice" then ["WoodError", "Twice"] else if x == "NoOctets" then ["WoodError", "NoOctets"] else []
def MG : MGd :=
  { fr := ["len", "range", "sum", "sorted", "set", "tuple", "list", "enumerate", "zip", "reversed", "min", "max", "isinstance", "int", "bool", "str", "all", "divmod", "abs", "ValueError"], gi := [("WIDE", 32), ("MOST", 4096), ("FAR", 1000000000000000000000000000000000000000000000000000000000000)], gt := [], xs := ["WoodError", "TooMany", "NoBit", "NoPlace", "NoNode", "NoTree", "NoSign", "NoWord", "Twice", "NoOctets"], crs := [.own "WoodError", .own "TooMany", .own "NoBit", .own "NoPlace", .own "NoNode", .own "NoTree", .own "NoSign", .own "NoWord", .own "Twice", .own "NoOctets", .ty "ValueError"],
    isB := fun x c => match c with | .own y => (subs x).contains y | .ty T => (T == "ValueError"), sub := fun x y => (subs x).contains y }
/-! packed -/
def N_packed : List Str := ["bits", "blocks", "at", "bit"]
def S_packed : Sc := ⟨N_packed, defScope (top 14), [0, 1, 2, 3], [0, 1, 2, 3], ["len", "MOST", "TooMany", "WIDE", "enumerate", "NoBit"], false⟩
theorem ok_packed : S_packed.ok = true := by decide +kernel
theorem fs_packed : FnScope S_packed.N ["bits"] (defScope (top 14)) := ⟨rfl, rfl, rfl, by decide +kernel, rfl, by decide +kernel, by decide +kernel⟩
def b_packed (ep : Ep) : DS :=
  (sSq (sIf (tB (eOp2 dGt (eCall dLen (aC (eV 0) aN)) (eC (.int (4096))))) (sRaise ep "TooMany") sNx)
  (sSq (sOw 1 (eOp2 dMul (eLst (aC (eC (.int 0)) aN)) (eOp2 dDiv (eOp2 dSub (eOp2 dAdd (eCall dLen (aC (eV 0) aN)) (eC (.int (32)))) (eC (.int 1))) (eC (.int (32))))))
  (sSq (sFor (iEn (eS 0)) (gT 2 (gsC 2 (gsC 3 gsN))) (sSq (sIf (tAn (tB (eOp2 dNe (eV 3) (eC (.int 0)))) (tB (eOp2 dNe (eV 3) (eC (.int 1))))) (sRaise ep "NoBit") sNx)
  (sIf (tB (eOp2 dEq (eV 3) (eC (.int 1)))) (sIxS 1 (eOp2 dOr (eOp2 dIx (eV 1) (eOp2 dDiv (eV 2) (eC (.int (32))))) (eOp2 dShl (eC (.int 1)) (eOp2 dMod (eV 2) (eC (.int (32)))))) (eOp2 dDiv (eV 2) (eC (.int (32))))) sNx)))
  (sRt (eR 1)))))
theorem w_packed {X : Cx} {G : Gc} (B : Bx X G S_packed MG 0) (hp : PassesOwn (model X.prog X.w) X.A X.env X.xe) (T : Tp X) : VSs X G (defBody (top 14)) (b_packed G.ep) :=
  (vss_cons (vs_if (vt_cmp cr_gt ((B.bf 0 0 br_len bt_len (va_cons (B.vB 0) va_nil)).up) ((B.gint 1 1).up) rfl) (vss_one (B.raise 2 1)) vss_nil)
  (vss_cons (B.ow 1 ((ve_mul ((ve_lst (m := .N) (va_cons (ve_int) va_nil)).up) ((ve_div ((ve_sub ((ve_add ((B.bf 0 0 br_len bt_len (va_cons (B.vB 0) va_nil)).up) ((B.gint 3 0).up)).up) ((ve_int).up)).up) ((B.gint 3 0).up)).up)).up))
  (vss_cons (B.For hp (B.enum 4 7 (B.vE 0)) (B.gT (B.gC 2 (B.gC 3 vgs_nil))) (vss_cons (vs_if (vt_w (vw_and (vt_cmp (cr_ne (B.room rfl)) (B.vB 3) ((ve_int).up) rfl) (vw_and1 (vt_cmp (cr_ne (B.room rfl)) (B.vB 3) ((ve_int).up) rfl)))) (vss_one (B.raise 5 2)) vss_nil)
  (vss_one (vs_if (vt_cmp (cr_eq (B.room rfl)) (B.vB 3) ((ve_int).up) rfl) (vss_one (B.ixs 1 ((ve_or_ ((B.ix (B.vB 1) ((ve_div (B.vB 2) ((B.gint 3 0).up)).up)).up) ((ve_shl ((ve_int).up) ((ve_mod (B.vB 2) ((B.gint 3 0).up)).up)).up)).up) ((ve_div (B.vB 2) ((B.gint 3 0).up)).up))) vss_nil))))
  (vss_one (vs_ret (B.vR 1))))))
/-! ones_in -/
def N_ones_in : List Str := ["block", "upto", "k"]
def S_ones_in : Sc := ⟨N_ones_in, defScope (top 15), [0, 1], [0, 1], ["sum", "range"], false⟩
theorem ok_ones_in : S_ones_in.ok = true := by decide +kernel
theorem fs_ones_in : FnScope S_ones_in.N ["block", "upto"] (defScope (top 15)) := ⟨rfl, rfl, rfl, by decide +kernel, rfl, by decide +kernel, by decide +kernel⟩
def b_ones_in (ep : Ep) : DS :=
  (sRt (eCall dSum (aC (eLc (iR1 (aC (eV 1) aN)) (gN 2) tYes_ (eOp2 dAnd (eOp2 dShr (eV 0) (eV 2)) (eC (.int 1))) [2]) aN)))
theorem w_ones_in {X : Cx} {G : Gc} (B : Bx X G S_ones_in MG 0) (hp : PassesOwn (model X.prog X.w) X.A X.env X.xe) (T : Tp X) : VSs X G (defBody (top 15)) (b_ones_in G.ep) :=
  (vss_one (vs_ret ((B.bf 0 2 (br_sum (B.calm rfl)) bt_sum (va_cons ((B.lc (own := [("k", 2)]) (vi := [2, 0]) (li := [2]) (gs := []) (by decide +kernel) (B.r1 1 1 (va_cons (B.vB 1) va_nil)) (B.lcN (own := [("k", 2)]) (vi := [2, 0]) (li := [2]) (gs := []) 2 (by decide +kernel)) (fun _ _ _ _ _ _ B => vts_nil) (fun _ _ _ _ _ _ B => ((ve_and_ ((ve_shr (B.vB 0) (B.vB 2)).up) ((ve_int).up)).up))).up) va_nil)).up)))
/-! ones_table -/
def N_ones_table : List Str := ["blocks", "ahead", "block"]
def S_ones_table : Sc := ⟨N_ones_table, defScope (top 17), [0, 1, 2], [0, 1, 2], ["ones_in", "WIDE", "tuple"], false⟩
theorem ok_ones_table : S_ones_table.ok = true := by decide +kernel
theorem fs_ones_table : FnScope S_ones_table.N ["blocks"] (defScope (top 17)) := ⟨rfl, rfl, rfl, by decide +kernel, rfl, by decide +kernel, by decide +kernel⟩
def b_ones_table (ep : Ep) : DS :=
  (sSq (sOw 1 (eLst (aC (eC (.int 0)) aN)))
  (sSq (sFor (iSq (eS 0)) (gN 2) (sApp 1 (eOp2 dAdd (eOp2 dIx (eV 1) (eOp1 dNeg (eC (.int 1)))) (eFn ep 2 sp_ones_in (aC (eV 2) (aC (eC (.int (32))) aN))))))
  (sRt (eCall dTuple (aC (eV 1) aN)))))
theorem w_ones_table {X : Cx} {G : Gc} (B : Bx X G S_ones_table MG 1) (hp : PassesOwn (model X.prog X.w) X.A X.env X.xe) (T : Tp X) (C_ones_in : Cal X G 1 "ones_in" 2 false sp_ones_in) : VSs X G (defBody (top 17)) (b_ones_table G.ep) :=
  (vss_cons (B.ow 1 ((ve_lst (m := .N) (va_cons (ve_int) va_nil)).up))
  (vss_cons (B.For hp (vi_seq (B.vE 0)) (B.gN 2) (vss_one (B.app 1 ((ve_add ((B.ix (B.vB 1) ((ve_neg ((ve_int).up)).up)).up) ((B.fnN 0 C_ones_in (by decide) (va_cons (B.vB 2) (va_cons ((B.gint 1 0).up) va_nil))).up)).up))))
  (vss_one (vs_ret ((B.bt 2 5 br_tuple bt_tuple (va_cons (B.vB 1) va_nil)).up)))))
/-! kept_row -/
def N_kept_row : List Str := ["bits", "blocks"]
def S_kept_row : Sc := ⟨N_kept_row, defScope (top 18), [0, 1], [0, 1], ["packed", "len", "ones_table"], false⟩
theorem ok_kept_row : S_kept_row.ok = true := by decide +kernel
theorem fs_kept_row : FnScope S_kept_row.N ["bits"] (defScope (top 18)) := ⟨rfl, rfl, rfl, by decide +kernel, rfl, by decide +kernel, by decide +kernel⟩
def b_kept_row (ep : Ep) : DS :=
  (sSq (sOw 1 (eFn ep 1 sp_packed (aC (eV 0) aN)))
  (sRt (eTup (aC (eTup (aC (eCall dLen (aC (eV 0) aN)) (aC (eFn ep 1 sp_ones_table (aC (eV 1) aN)) aN))) (aC (eR 1) aN)))))
theorem w_kept_row {X : Cx} {G : Gc} (B : Bx X G S_kept_row MG 2) (hp : PassesOwn (model X.prog X.w) X.A X.env X.xe) (T : Tp X) (C_packed : Cal X G 1 "packed" 1 false sp_packed) (C_ones_table : Cal X G 2 "ones_table" 1 false sp_ones_table) : VSs X G (defBody (top 18)) (b_kept_row G.ep) :=
  (vss_cons (B.ow 1 ((B.fnN 0 C_packed (by decide) (va_cons (B.vB 0) va_nil)).up))
  (vss_one (vs_ret (ve_tup (m := .R) (va_cons (ve_tup (m := .R) (va_cons ((B.bf 1 0 br_len bt_len (va_cons (B.vB 0) va_nil)).up) (va_cons ((B.fnN 2 C_ones_table (by decide) (va_cons (B.vB 1) va_nil)).up) va_nil))) (va_cons (B.vR 1) va_nil))))))
/-! levels_for -/
def N_levels_for : List Str := ["kinds", "levels", "room"]
def S_levels_for : Sc := ⟨N_levels_for, defScope (top 21), [0, 1, 2], [0, 1, 2], [], false⟩
theorem ok_levels_for : S_levels_for.ok = true := by decide +kernel
theorem fs_levels_for : FnScope S_levels_for.N ["kinds"] (defScope (top 21)) := ⟨rfl, rfl, rfl, by decide +kernel, rfl, by decide +kernel, by decide +kernel⟩
def b_levels_for (ep : Ep) : DS :=
  (sSq (sSh 1 (eC (.int 0)))
  (sSq (sSh 2 (eC (.int 1)))
  (sSq (sWh (tB (eOp2 dLt (eV 2) (eV 0))) (sSq (sAu 2 (dInt fun i j => some (i + j)) (eV 2))
  (sAu 1 (dInt fun i j => some (i + j)) (eC (.int 1)))))
  (sRt (eR 1)))))
theorem w_levels_for {X : Cx} {G : Gc} (B : Bx X G S_levels_for MG 0) (hp : PassesOwn (model X.prog X.w) X.A X.env X.xe) (T : Tp X) : VSs X G (defBody (top 21)) (b_levels_for G.ep) :=
  (vss_cons (B.sh 1 ((ve_int).up))
  (vss_cons (B.sh 2 ((ve_int).up))
  (vss_cons (vs_while hp (vt_cmp cr_lt (B.vB 2) (B.vB 0) rfl) (vss_cons (B.augAdd 2 (B.vB 2))
  (vss_one (B.augAdd 1 ((ve_int).up)))))
  (vss_one (vs_ret (B.vR 1))))))
/-! kept_signs -/
def N_kept_signs : List Str := ["signs", "sign", "kinds", "ranks", "rank", "row", "aheads", "blocks", "tables", "some", "noughts", "weight"]
def S_kept_signs : Sc := ⟨N_kept_signs, defScope (top 22), [0, 1, 2, 3, 4, 5, 6, 7, 8, 9, 10, 11], [0, 1, 2, 3, 4, 5, 6, 7, 8, 9, 10, 11], ["len", "MOST", "TooMany", "FAR", "NoSign", "sorted", "set", "enumerate", "reversed", "range", "levels_for", "kept_row", "tuple"], false⟩
theorem ok_kept_signs : S_kept_signs.ok = true := by decide +kernel
theorem fs_kept_signs : FnScope S_kept_signs.N ["signs"] (defScope (top 22)) := ⟨rfl, rfl, rfl, by decide +kernel, rfl, by decide +kernel, by decide +kernel⟩
def b_kept_signs (ep : Ep) : DS :=
  (sSq (sIf (tB (eOp2 dGt (eCall dLen (aC (eV 0) aN)) (eC (.int (4096))))) (sRaise ep "TooMany") sNx)
  (sSq (sFor (iSq (eS 0)) (gN 1) (sIf (tOr_ (tB (eOp2 dLe (eV 1) (eOp2 dSub (eC (.int 0)) (eC (.int (1000000000000000000000000000000000000000000000000000000000000)))))) (tB (eOp2 dGe (eV 1) (eC (.int (1000000000000000000000000000000000000000000000000000000000000)))))) (sRaise ep "NoSign") sNx))
  (sSq (sSh 2 (eSoS (eV 0)))
  (sSq (sOw 3 eDct)
  (sSq (sFor (iEn (eS 2)) (gT 2 (gsC 4 (gsC 1 gsN))) (sDPt 3 (eS 4) (eV 1)))
  (sSq (sSh 5 (eLc (iSq (eV 0)) (gN 1) tYes_ (eOp2 dIx (eV 3) (eV 1)) [1]))
  (sSq (sOw 6 (eLst aN))
  (sSq (sOw 7 (eLst aN))
  (sSq (sFor (iRvR (eFn ep 1 sp_levels_for (aC (eCall dLen (aC (eV 2) aN)) aN))) (gN 11) (sSq (sAsg (eFn ep 1 sp_kept_row (aC (eLc (iSq (eV 5)) (gN 4) tYes_ (eOp2 dAnd (eOp2 dShr (eV 4) (eV 11)) (eC (.int 1))) [4]) aN)) (gT 2 (gsC 8 (gsC 9 gsN))))
  (sSq (sApp 6 (eOp2 dIx (eV 8) (eC (.int 1))))
  (sSq (sExt 7 (eV 9))
  (sSq (sSh 10 (eLc (iSq (eV 5)) (gN 4) (tB (eOp2 dEq (eOp2 dAnd (eOp2 dShr (eV 4) (eV 11)) (eC (.int 1))) (eC (.int 0)))) (eS 4) [4]))
  (sSh 5 (eOp2 dAdd (eV 10) (eLc (iSq (eV 5)) (gN 4) (tB (eOp2 dEq (eOp2 dAnd (eOp2 dShr (eV 4) (eV 11)) (eC (.int 1))) (eC (.int 1)))) (eS 4) [4]))))))))
  (sRt (eTup (aC (eTup (aC (eCall dLen (aC (eV 0) aN)) (aC (eCall dTuple (aC (eV 2) aN)) (aC (eCall dTuple (aC (eV 6) aN)) aN)))) (aC (eR 7) aN)))))))))))))
theorem w_kept_signs {X : Cx} {G : Gc} (B : Bx X G S_kept_signs MG 3) (hp : PassesOwn (model X.prog X.w) X.A X.env X.xe) (T : Tp X) (C_levels_for : Cal X G 1 "levels_for" 1 false sp_levels_for) (C_kept_row : Cal X G 3 "kept_row" 1 false sp_kept_row) : VSs X G (defBody (top 22)) (b_kept_signs G.ep) :=
  (vss_cons (vs_if (vt_cmp cr_gt ((B.bf 0 0 br_len bt_len (va_cons (B.vB 0) va_nil)).up) ((B.gint 1 1).up) rfl) (vss_one (B.raise 2 1)) vss_nil)
  (vss_cons (B.For hp (vi_seq (B.vE 0)) (B.gN 1) (vss_one (vs_if (vt_w (vw_or (vt_cmp cr_le (B.vB 1) ((ve_sub ((ve_int).up) ((B.gint 3 2).up)).up) rfl) (vw_or1 (vt_cmp cr_ge (B.vB 1) ((B.gint 3 2).up) rfl)))) (vss_one (B.raise 4 6)) vss_nil)))
  (vss_cons (B.sh 2 ((B.soS 5 3 6 4 (B.vB 0)).up))
  (vss_cons (B.ow 3 (ve_dct))
  (vss_cons (B.For hp (B.enum 7 7 (B.vE 2)) (B.gT (B.gC 4 (B.gC 1 vgs_nil))) (vss_one (B.dput 3 (B.vE 4) (B.vB 1))))
  (vss_cons (B.lcSh 5 (own := [("sign", 1)]) (vi := [1, 3]) (li := [1]) (gs := []) (by decide +kernel) (by decide +kernel) (vi_seq (B.vT 0)) (B.lcN (own := [("sign", 1)]) (vi := [1, 3]) (li := [1]) (gs := []) 1 (by decide +kernel)) (fun _ _ _ _ _ _ B => vts_nil) (fun _ _ _ _ _ _ B => ((B.ix (B.vB 3) (B.vB 1)).up)))
  (vss_cons (B.ow 6 ((ve_lst (m := .N) va_nil).up))
  (vss_cons (B.ow 7 ((ve_lst (m := .N) va_nil).up))
  (vss_cons (B.For hp (B.rvR 8 9 9 1 ((B.fnN 10 C_levels_for (by decide) (va_cons ((B.bf 0 0 br_len bt_len (va_cons (B.vB 2) va_nil)).up) va_nil)).up)) (B.gN 11) (vss_cons (B.asg ((B.fnN 11 C_kept_row (by decide) (va_cons ((B.lc (own := [("rank", 4)]) (vi := [4, 11]) (li := [4]) (gs := []) (by decide +kernel) (vi_seq (B.vT 5)) (B.lcN (own := [("rank", 4)]) (vi := [4, 11]) (li := [4]) (gs := []) 4 (by decide +kernel)) (fun _ _ _ _ _ _ B => vts_nil) (fun _ _ _ _ _ _ B => ((ve_and_ ((ve_shr (B.vB 4) (B.vB 11)).up) ((ve_int).up)).up))).up) va_nil)).up) (B.gT (B.gC 8 (B.gC 9 vgs_nil))))
  (vss_cons (B.app 6 ((B.ix (B.vB 8) ((ve_int).up)).up))
  (vss_cons (B.ext 7 (B.vB 9))
  (vss_cons (B.lcSh 10 (own := [("rank", 4)]) (vi := [4, 11]) (li := [4]) (gs := []) (by decide +kernel) (by decide +kernel) (vi_seq (B.vT 5)) (B.lcN (own := [("rank", 4)]) (vi := [4, 11]) (li := [4]) (gs := []) 4 (by decide +kernel)) (fun _ _ _ _ _ _ B => (vts_one (vt_cmp (cr_eq (B.room rfl)) ((ve_and_ ((ve_shr (B.vB 4) (B.vB 11)).up) ((ve_int).up)).up) ((ve_int).up) rfl))) (fun _ _ _ _ _ _ B => (B.vE 4)))
  (vss_one (B.sh 5 ((ve_add (B.vB 10) ((B.lc (own := [("rank", 4)]) (vi := [4, 11]) (li := [4]) (gs := []) (by decide +kernel) (vi_seq (B.vT 5)) (B.lcN (own := [("rank", 4)]) (vi := [4, 11]) (li := [4]) (gs := []) 4 (by decide +kernel)) (fun _ _ _ _ _ _ B => (vts_one (vt_cmp (cr_eq (B.room rfl)) ((ve_and_ ((ve_shr (B.vB 4) (B.vB 11)).up) ((ve_int).up)).up) ((ve_int).up) rfl))) (fun _ _ _ _ _ _ B => (B.vE 4))).up)).up))))))))
  (vss_one (vs_ret (ve_tup (m := .R) (va_cons (ve_tup (m := .R) (va_cons ((B.bf 0 0 br_len bt_len (va_cons (B.vB 0) va_nil)).up) (va_cons ((B.bt 12 5 br_tuple bt_tuple (va_cons (B.vB 2) va_nil)).up) (va_cons ((B.bt 12 5 br_tuple bt_tuple (va_cons (B.vB 6) va_nil)).up) va_nil)))) (va_cons (B.vR 7) va_nil))))))))))))))
/-! _law_cell_at -/
def N__law_cell_at : List Str := ["_law_script", "_law_k"]
def S__law_cell_at : Sc := ⟨N__law_cell_at, defScope (top 24), [0, 1], [0, 1], ["len"], false⟩
theorem ok__law_cell_at : S__law_cell_at.ok = true := by decide +kernel
theorem fs__law_cell_at : FnScope S__law_cell_at.N ["_law_script", "_law_k"] (defScope (top 24)) := ⟨rfl, rfl, rfl, by decide +kernel, rfl, by decide +kernel, by decide +kernel⟩
def b__law_cell_at (ep : Ep) : DS :=
  (sSq (sIf (tB (eOp2 dLt (eV 1) (eCall dLen (aC (eV 0) aN)))) (sRt (eOp2 dIx (eV 0) (eV 1))) sNx)
  (sRt (eC (.int 0))))
theorem w__law_cell_at {X : Cx} {G : Gc} (B : Bx X G S__law_cell_at MG 0) (hp : PassesOwn (model X.prog X.w) X.A X.env X.xe) (T : Tp X) : VSs X G (defBody (top 24)) (b__law_cell_at G.ep) :=
  (vss_cons (vs_if (vt_cmp cr_lt (B.vB 1) ((B.bf 0 0 br_len bt_len (va_cons (B.vB 0) va_nil)).up) rfl) (vss_one (vs_ret ((B.ix (B.vB 0) (B.vB 1)).up))) vss_nil)
  (vss_one (vs_ret ((ve_int).up))))
/-! _law_whole -/
def N__law_whole : List Str := ["_law_found"]
def S__law_whole : Sc := ⟨N__law_whole, defScope (top 25), [0], [0], ["isinstance", "int", "bool"], false⟩
theorem ok__law_whole : S__law_whole.ok = true := by decide +kernel
theorem fs__law_whole : FnScope S__law_whole.N ["_law_found"] (defScope (top 25)) := ⟨rfl, rfl, rfl, by decide +kernel, rfl, by decide +kernel, by decide +kernel⟩
def b__law_whole (ep : Ep) : DS :=
  (sRt (eAn (eIsT "int" (eV 0)) (eNt (eIsT "bool" (eV 0)))))
theorem w__law_whole {X : Cx} {G : Gc} (B : Bx X G S__law_whole MG 0) (hp : PassesOwn (model X.prog X.w) X.A X.env X.xe) (T : Tp X) : VSs X G (defBody (top 25)) (b__law_whole G.ep) :=
  (vss_one (vs_ret (((ve_and (m := .N) ((B.isT 0 12 1 13 (T := "int") (B.vB 0) (by decide +kernel) bt_int).up) (ve_one (ve_not ((B.isT 0 12 2 14 (T := "bool") (B.vB 0) (by decide +kernel) bt_bool).up))))).up)))
/-! _law_others -/
def N__law_others : List Str := ["_law_e"]
def S__law_others : Sc := ⟨N__law_others, defScope (top 26), [0], [0], ["isinstance", "NoBit", "NoNode", "NoOctets", "NoPlace", "NoTree", "NoWord", "Twice"], false⟩
theorem ok__law_others : S__law_others.ok = true := by decide +kernel
theorem fs__law_others : FnScope S__law_others.N ["_law_e"] (defScope (top 26)) := ⟨rfl, rfl, rfl, by decide +kernel, rfl, by decide +kernel, by decide +kernel⟩
def b__law_others (x : Str) (a : Addr) : DS :=
  (sSq (sIf (tB (eIsE 0 a ([.own "NoBit", .own "NoNode", .own "NoOctets", .own "NoPlace"].any (MG.isB x)))) (sRt (eC (.bl true))) sNx)
  (sRt (eIsE 0 a ([.own "NoTree", .own "NoWord", .own "Twice"].any (MG.isB x)))))
theorem w__law_others {X : Cx} {G : Gc} {x : Str} {a : Addr} (B : Bx X G (hotS S__law_others) MG 0) (P : Pin X G.ca x a) (hx : x ∈ MG.xs) (hhd : X.A.handled = some (.ref a)) : VSs X G (defBody (top 26)) (b__law_others x a) :=
  (vss_cons (vs_if (vt_val ((B.isEs 0 12 0 P hx (cl_cons (B.clO 1 2) (cl_cons (B.clO 2 4) (cl_cons (B.clO 3 9) (cl_cons (B.clO 4 3) cl_nil))))).up)) (vss_one (vs_ret ((ve_bl).up))) vss_nil)
  (vss_one (vs_ret ((B.isEs 0 12 0 P hx (cl_cons (B.clO 5 5) (cl_cons (B.clO 6 7) (cl_cons (B.clO 7 8) cl_nil)))).up))))
/-! _law_told -/
def N__law_told : List Str := ["_law_row", "_law_found", "_law_told_here", "_law_e"]
def S__law_told : Sc := ⟨N__law_told, defScope (top 27), [0, 1, 2, 3], [0, 1, 2, 3], ["kept_signs", "TooMany", "isinstance", "WoodError", "ValueError", "NoSign", "_law_others", "_law_whole", "len"], false⟩
theorem ok__law_told : S__law_told.ok = true := by decide +kernel
theorem fs__law_told : FnScope S__law_told.N ["_law_row"] (defScope (top 27)) := ⟨rfl, rfl, rfl, by decide +kernel, rfl, by decide +kernel, by decide +kernel⟩
def b__law_told (ep : Ep) : DS :=
  (sSq (sSh 1 (eC .non))
  (sSq (sOw 2 (eLst (aC (eC (.int 0)) aN)))
  (sSq (sTry MG.xs MG.sub ep (fun ep1 => (sSh 1 (eFn ep1 1 sp_kept_signs (aC (eV 0) aN)))) [⟨"TooMany", some 3, fun x a => (sOw 2 (eLst (aC (eC (.int 1)) (aC (eIsE 3 a (MG.isB x (.own "WoodError"))) (aC (eIsE 3 a (MG.isB x (.ty "ValueError"))) (aC (eIsE 3 a (MG.isB x (.own "NoSign"))) (aC (eFnH 1 (sp__law_others x a) (aC (eV 3) aN)) aN)))))))⟩, ⟨"NoSign", some 3, fun x a => (sOw 2 (eLst (aC (eC (.int 2)) (aC (eIsE 3 a (MG.isB x (.own "WoodError"))) (aC (eIsE 3 a (MG.isB x (.ty "ValueError"))) (aC (eIsE 3 a (MG.isB x (.own "TooMany"))) (aC (eFnH 1 (sp__law_others x a) (aC (eV 3) aN)) aN)))))))⟩])
  (sSq (sIf (tAn (tB (eOp2 dEq (eV 2) (eLst (aC (eC (.int 0)) aN)))) (tOr_ (tNt (tB (eFn ep 1 sp__law_whole (aC (eOp2 dIx (eOp2 dIx (eV 1) (eC (.int 0))) (eC (.int 0))) aN)))) (tB (eOp2 dNe (eOp2 dIx (eOp2 dIx (eV 1) (eC (.int 0))) (eC (.int 0))) (eCall dLen (aC (eV 0) aN)))))) (sRt (eLst (aC (eC (.int 3)) aN))) sNx)
  (sRt (eR 2))))))
theorem w__law_told {X : Cx} {G : Gc} (B : Bx X G S__law_told MG 4) (hp : PassesOwn (model X.prog X.w) X.A X.env X.xe) (T : Tp X) (C_kept_signs : Cal X G 4 "kept_signs" 1 false sp_kept_signs) (C__law_others : FnDH X.prog X.w X.K X.mg X.base G.wd MG 1 "_law_others" 1 sp__law_others) (C__law_whole : Cal X G 1 "_law_whole" 1 false sp__law_whole) : VSs X G (defBody (top 27)) (b__law_told G.ep) :=
  (vss_cons (B.sh 1 ((ve_non).up))
  (vss_cons (B.ow 2 ((ve_lst (m := .N) (va_cons (ve_int) va_nil)).up))
  (vss_cons (vs_try (xs := MG.xs) (sub := MG.sub) T.st T.fr B.nd B.go (fun ep Wx h0 pn xe go hp => (fun B => (vss_one (B.sh 1 ((B.fnN 0 C_kept_signs (by decide) (va_cons (B.vB 0) va_nil)).up)))) (B.tr rfl go)) (.consN (B.nm 1 1) (fun x hx => B.mg.su hx (by decide)) (B.hN (i := 3) rfl) (B.kl (by decide +kernel)) (fun x a oe pn hx P => (fun B hhd => (vss_one (B.ow 2 ((ve_lst (m := .N) (va_cons (ve_int) (va_cons (B.isE 2 12 3 P hx (B.clO 3 0)) (va_cons (B.isE 2 12 3 P hx (B.clT 4 19 bt_ValueError)) (va_cons (B.isE 2 12 3 P hx (B.clO 5 6)) (va_cons (B.fnH 6 C__law_others (by decide) P hx hhd (va_cons (B.vB 3) va_nil)) va_nil)))))).up)))) (B.suite rfl P) (suite_hd (X := X) (a := a) (pn := (a, oe) :: pn))) (.consN (B.nm 5 6) (fun x hx => B.mg.su hx (by decide)) (B.hN (i := 3) rfl) (B.kl (by decide +kernel)) (fun x a oe pn hx P => (fun B hhd => (vss_one (B.ow 2 ((ve_lst (m := .N) (va_cons (ve_int) (va_cons (B.isE 2 12 3 P hx (B.clO 3 0)) (va_cons (B.isE 2 12 3 P hx (B.clT 4 19 bt_ValueError)) (va_cons (B.isE 2 12 3 P hx (B.clO 1 1)) (va_cons (B.fnH 6 C__law_others (by decide) P hx hhd (va_cons (B.vB 3) va_nil)) va_nil)))))).up)))) (B.suite rfl P) (suite_hd (X := X) (a := a) (pn := (a, oe) :: pn))) .nil)))
  (vss_cons (vs_if (vt_w (vw_and (vt_cmp (cr_eq (B.room rfl)) (B.vB 2) ((ve_lst (m := .N) (va_cons (ve_int) va_nil)).up) rfl) (vw_and1 (vt_w (vw_or (vt_not (vt_val ((B.fnN 7 C__law_whole (by decide) (va_cons ((B.ix ((B.ix (B.vB 1) ((ve_int).up)).up) ((ve_int).up)).up) va_nil)).up))) (vw_or1 (vt_cmp (cr_ne (B.room rfl)) ((B.ix ((B.ix (B.vB 1) ((ve_int).up)).up) ((ve_int).up)).up) ((B.bf 8 0 br_len bt_len (va_cons (B.vB 0) va_nil)).up) rfl))))))) (vss_one (vs_ret (ve_lst (m := .R) (va_cons ((ve_int).up) va_nil)))) vss_nil)
  (vss_one (vs_ret (B.vR 2)))))))
/-! _law_due -/
def N__law_due : List Str := ["_law_row", "_law_bad"]
def S__law_due : Sc := ⟨N__law_due, defScope (top 28), [0, 1], [0, 1], ["len"], false⟩
theorem ok__law_due : S__law_due.ok = true := by decide +kernel
theorem fs__law_due : FnScope S__law_due.N ["_law_row", "_law_bad"] (defScope (top 28)) := ⟨rfl, rfl, rfl, by decide +kernel, rfl, by decide +kernel, by decide +kernel⟩
def b__law_due (ep : Ep) : DS :=
  (sSq (sIf (tB (eOp2 dGt (eCall dLen (aC (eV 0) aN)) (eC (.int 4096)))) (sRt (eLst (aC (eC (.int 1)) (aC (eC (.bl true)) (aC (eC (.bl true)) (aC (eC (.bl false)) (aC (eC (.bl false)) aN))))))) sNx)
  (sSq (sIf (tB (eV 1)) (sRt (eLst (aC (eC (.int 2)) (aC (eC (.bl true)) (aC (eC (.bl true)) (aC (eC (.bl false)) (aC (eC (.bl false)) aN))))))) sNx)
  (sRt (eLst (aC (eC (.int 0)) aN)))))
theorem w__law_due {X : Cx} {G : Gc} (B : Bx X G S__law_due MG 0) (hp : PassesOwn (model X.prog X.w) X.A X.env X.xe) (T : Tp X) : VSs X G (defBody (top 28)) (b__law_due G.ep) :=
  (vss_cons (vs_if (vt_cmp cr_gt ((B.bf 0 0 br_len bt_len (va_cons (B.vB 0) va_nil)).up) ((ve_int).up) rfl) (vss_one (vs_ret (ve_lst (m := .R) (va_cons ((ve_int).up) (va_cons ((ve_bl).up) (va_cons ((ve_bl).up) (va_cons ((ve_bl).up) (va_cons ((ve_bl).up) va_nil)))))))) vss_nil)
  (vss_cons (vs_if (vt_val (B.vB 1)) (vss_one (vs_ret (ve_lst (m := .R) (va_cons ((ve_int).up) (va_cons ((ve_bl).up) (va_cons ((ve_bl).up) (va_cons ((ve_bl).up) (va_cons ((ve_bl).up) va_nil)))))))) vss_nil)
  (vss_one (vs_ret (ve_lst (m := .R) (va_cons ((ve_int).up) va_nil))))))
/-! law -/
def N_law : List Str := ["_law_script", "_law_signs", "_law_long", "_law_one", "_law_spoilt", "_law_way", "_law_bad", "_law_far", "_law_handed", "_law_cell"]
def S_law : Sc := ⟨N_law, defScope (top 29), [0, 1, 2, 3, 4, 5, 6, 7, 8], [0, 1, 2, 3, 4, 5, 6, 7, 8], ["_law_cell_at", "len", "list", "_law_told", "_law_due"], false⟩
theorem ok_law : S_law.ok = true := by decide +kernel
theorem fs_law : FnScope S_law.N ["_law_script"] (defScope (top 29)) := ⟨rfl, rfl, rfl, by decide +kernel, rfl, by decide +kernel, by decide +kernel⟩
def b_law_7 (ep : Ep) : DS :=
  (sSq (sSh 8 (eCall dList (aC (eV 4) aN)))
  (sSq (sIf (tOr_ (tB (eOp2 dNe (eFn ep 1 sp__law_told (aC (eV 8) aN)) (eFn ep 2 sp__law_due (aC (eV 4) (aC (eV 6) aN))))) (tB (eOp2 dNe (eV 8) (eV 4)))) (sRt (eC (.bl false))) sNx)
  (sRt (eOr (eNt (eV 6)) (eOp2 dEq (eFn ep 1 sp__law_told (aC (eCall dList (aC (eV 1) aN)) aN)) (eFn ep 2 sp__law_due (aC (eV 1) (aC (eC (.bl false)) aN))))))))
def b_law_3 (ep : Ep) : DS :=
  (sSq (sOw 4 (eCall dList (aC (eV 1) aN)))
  (sSq (sSh 5 (eOp2 dMod (eFn ep 2 sp__law_cell_at (aC (eV 0) (aC (eC (.int 1)) aN))) (eC (.int 8))))
  (sSq (sSh 6 (eAn (eOp2 dEq (eOp2 dMod (eV 5) (eC (.int 2))) (eC (.int 1))) (eOp2 dGt (eCall dLen (aC (eV 1) aN)) (eC (.int 0)))))
  (sSq (sIf (tB (eV 6)) (sSq (sSh 7 (eOp2 dAdd (eOp2 dPow (eC (.int 10)) (eC (.int 60))) (eOp2 dIx (eLst (aC (eC (.int 0)) (aC (eOp2 dMod (eFn ep 2 sp__law_cell_at (aC (eV 0) (aC (eC (.int 2)) aN))) (eOp2 dPow (eC (.int 10)) (eC (.int 60)))) aN))) (eOp2 dDiv (eV 5) (eC (.int 4))))))
  (sIxS 4 (eOp2 dIx (eLst (aC (eFl (eV 7)) (aC (eOp2 dSub (eC (.int 0)) (eV 7)) aN))) (eOp2 dMod (eOp2 dDiv (eV 5) (eC (.int 2))) (eC (.int 2)))) (eOp2 dMod (eOp2 dDiv (eFn ep 2 sp__law_cell_at (aC (eV 0) (aC (eC (.int 3)) aN))) (eC (.int 5))) (eCall dLen (aC (eV 1) aN))))) sNx)
  (b_law_7 ep)))))
def b_law_1 (ep : Ep) : DS :=
  (sSq (sSh 2 (eFn ep 2 sp__law_cell_at (aC (eV 0) (aC (eC (.int 0)) aN))))
  (sSq (sIf (tB (eOp2 dEq (eOp2 dMod (eV 2) (eC (.int 8))) (eC (.int 3)))) (sSq (sSh 3 (eOp2 dIx (eLst (aC (eOp2 dSub (eOp2 dPow (eC (.int 10)) (eC (.int 60))) (eC (.int 1))) (aC (eOp2 dSub (eC (.int 1)) (eOp2 dPow (eC (.int 10)) (eC (.int 60)))) (aC (eOp2 dMod (eOp2 dDiv (eV 2) (eC (.int 96))) (eOp2 dPow (eC (.int 10)) (eC (.int 60)))) aN)))) (eOp2 dMod (eOp2 dDiv (eV 2) (eC (.int 32))) (eC (.int 3)))))
  (sSq (sOw 1 (eOp2 dMul (eLst (aC (eFl (eV 3)) aN)) (eOp2 dAdd (eC (.int 4095)) (eOp2 dMod (eOp2 dDiv (eV 2) (eC (.int 8))) (eC (.int 4))))))
  (sIxS 1 (eOp2 dMod (eFn ep 2 sp__law_cell_at (aC (eV 0) (aC (eC (.int 2)) aN))) (eOp2 dPow (eC (.int 10)) (eC (.int 60)))) (eOp2 dMod (eFn ep 2 sp__law_cell_at (aC (eV 0) (aC (eC (.int 3)) aN))) (eCall dLen (aC (eV 1) aN)))))) sNx)
  (b_law_3 ep)))
def b_law (ep : Ep) : DS :=
  (sSq (sOw 1 (eLc (iSq (eSl (eV 0) (oS (eC (.int 4))) (oS (eC (.int 63))))) (gN 9) tYes_ (eOp2 dAdd (eOp2 dSub (eOp2 dMod (eV 9) (eOp2 dSub (eOp2 dMul (eC (.int 2)) (eOp2 dPow (eC (.int 10)) (eC (.int 60)))) (eC (.int 1)))) (eOp2 dPow (eC (.int 10)) (eC (.int 60)))) (eC (.int 1))) [9]))
  (b_law_1 ep))
theorem w_law {X : Cx} {G : Gc} (B : Bx X G S_law MG 5) (hp : PassesOwn (model X.prog X.w) X.A X.env X.xe) (T : Tp X) (C__law_cell_at : Cal X G 1 "_law_cell_at" 2 false sp__law_cell_at) (C__law_told : Cal X G 5 "_law_told" 1 false sp__law_told) (C__law_due : Cal X G 1 "_law_due" 2 false sp__law_due) : VSs X G (defBody (top 29)) (b_law G.ep) :=
  (vss_cons (B.lcOw 1 (own := [("_law_cell", 9)]) (vi := [9]) (li := [9]) (gs := []) (by decide +kernel) (by decide +kernel) (vi_seq ((ve_sl (B.vB 0) (vo_some ((ve_int).up)) (vo_some ((ve_int).up))).up)) (B.lcN (own := [("_law_cell", 9)]) (vi := [9]) (li := [9]) (gs := []) 9 (by decide +kernel)) (fun _ _ _ _ _ _ B => vts_nil) (fun _ _ _ _ _ _ B => ((ve_add ((ve_sub ((ve_mod (B.vB 9) ((ve_sub ((ve_mul ((ve_int).up) ((ve_pow ((ve_int).up) ((ve_int).up)).up)).up) ((ve_int).up)).up)).up) ((ve_pow ((ve_int).up) ((ve_int).up)).up)).up) ((ve_int).up)).up)))
  (vss_cons (B.sh 2 ((B.fnN 0 C__law_cell_at (by decide) (va_cons (B.vB 0) (va_cons ((ve_int).up) va_nil))).up))
  (vss_cons (vs_if (vt_cmp (cr_eq (B.room rfl)) ((ve_mod (B.vB 2) ((ve_int).up)).up) ((ve_int).up) rfl) (vss_cons (B.sh 3 ((B.ix ((ve_lst (m := .N) (va_cons (ve_sub ((ve_pow ((ve_int).up) ((ve_int).up)).up) ((ve_int).up)) (va_cons (ve_sub ((ve_int).up) ((ve_pow ((ve_int).up) ((ve_int).up)).up)) (va_cons (ve_mod ((ve_div (B.vB 2) ((ve_int).up)).up) ((ve_pow ((ve_int).up) ((ve_int).up)).up)) va_nil)))).up) ((ve_mod ((ve_div (B.vB 2) ((ve_int).up)).up) ((ve_int).up)).up)).up))
  (vss_cons (B.ow 1 ((ve_mul ((ve_lst (m := .N) (va_cons ((B.vB 3).fl) va_nil)).up) ((ve_add ((ve_int).up) ((ve_mod ((ve_div (B.vB 2) ((ve_int).up)).up) ((ve_int).up)).up)).up)).up))
  (vss_one (B.ixs 1 ((ve_mod ((B.fnN 0 C__law_cell_at (by decide) (va_cons (B.vB 0) (va_cons ((ve_int).up) va_nil))).up) ((ve_pow ((ve_int).up) ((ve_int).up)).up)).up) ((ve_mod ((B.fnN 0 C__law_cell_at (by decide) (va_cons (B.vB 0) (va_cons ((ve_int).up) va_nil))).up) ((B.bf 1 0 br_len bt_len (va_cons (B.vB 1) va_nil)).up)).up))))) vss_nil)
  (vss_cons (B.ow 4 ((B.bt 2 6 br_list bt_list (va_cons (B.vB 1) va_nil)).up))
  (vss_cons (B.sh 5 ((ve_mod ((B.fnN 0 C__law_cell_at (by decide) (va_cons (B.vB 0) (va_cons ((ve_int).up) va_nil))).up) ((ve_int).up)).up))
  (vss_cons (B.sh 6 (((ve_and (m := .N) ((ve_cmp (cr_eq (B.room rfl)) ((ve_mod (B.vB 5) ((ve_int).up)).up) ((ve_int).up) rfl).up) (ve_one (ve_cmp cr_gt ((B.bf 1 0 br_len bt_len (va_cons (B.vB 1) va_nil)).up) ((ve_int).up) rfl)))).up))
  (vss_cons (vs_if (vt_val (B.vB 6)) (vss_cons (B.sh 7 ((ve_add ((ve_pow ((ve_int).up) ((ve_int).up)).up) ((B.ix ((ve_lst (m := .N) (va_cons (ve_int) (va_cons (ve_mod ((B.fnN 0 C__law_cell_at (by decide) (va_cons (B.vB 0) (va_cons ((ve_int).up) va_nil))).up) ((ve_pow ((ve_int).up) ((ve_int).up)).up)) va_nil))).up) ((ve_div (B.vB 5) ((ve_int).up)).up)).up)).up))
  (vss_one (B.ixs 4 ((B.ix ((ve_lst (m := .N) (va_cons ((B.vB 7).fl) (va_cons (ve_sub ((ve_int).up) (B.vB 7)) va_nil))).up) ((ve_mod ((ve_div (B.vB 5) ((ve_int).up)).up) ((ve_int).up)).up)).up) ((ve_mod ((ve_div ((B.fnN 0 C__law_cell_at (by decide) (va_cons (B.vB 0) (va_cons ((ve_int).up) va_nil))).up) ((ve_int).up)).up) ((B.bf 1 0 br_len bt_len (va_cons (B.vB 1) va_nil)).up)).up)))) vss_nil)
  (vss_cons (B.sh 8 ((B.bt 2 6 br_list bt_list (va_cons (B.vB 4) va_nil)).up))
  (vss_cons (vs_if (vt_w (vw_or (vt_cmp (cr_ne (B.room rfl)) ((B.fnN 3 C__law_told (by decide) (va_cons (B.vB 8) va_nil)).up) ((B.fnN 4 C__law_due (by decide) (va_cons (B.vB 4) (va_cons (B.vB 6) va_nil))).up) rfl) (vw_or1 (vt_cmp (cr_ne (B.room rfl)) (B.vB 8) (B.vB 4) rfl)))) (vss_one (vs_ret ((ve_bl).up))) vss_nil)
  (vss_one (vs_ret (((ve_or (m := .N) ((ve_not (B.vB 6)).up) (ve_one (ve_cmp (cr_eq (B.room rfl)) ((B.fnN 3 C__law_told (by decide) (va_cons ((B.bt 2 6 br_list bt_list (va_cons (B.vB 1) va_nil)).up) va_nil)).up) ((B.fnN 4 C__law_due (by decide) (va_cons (B.vB 1) (va_cons ((ve_bl).up) va_nil))).up) rfl)))).up))))))))))))
end LW

set_option Elab.async false
set_option linter.all false
set_option maxRecDepth 100000
set_option maxHeartbeats 4000000
namespace LW
open PySem PySem.Spec L2 DL
theorem p_packed (args : List D) (c : Nat) (Qd : D → Nat → Prop) (Ed : Str → Nat → Prop) (hl : args.length = 1) (h : sp_packed args c Qd Ed) : b_packed (fun x _ c => Ed x c) { nx := fun _ c => Qd .non c, rt := Qd } (startD N_packed args) c := by
  obtain ⟨bits, rfl, h1, h2, hQ⟩ := h
  have e0 : startD N_packed [dI bits] = [.sh (dI bits), .un, .un, .un] := rfl
  rw [e0]
  unfold b_packed
  have hz : sizeLine = 16777216 := sizeLine_eq
  have hc : ¬ (4096 : Int) < (bits.length : Int) := by omega
  simp [hc]
  have e1 : (List.replicate (((bits.length : Int) + 32 - 1) / 32).toNat (D.int 0)) = (List.replicate (((bits.length : Int) + 32 - 1) / 32).toNat (0 : Int)).map .int := by rw [List.map_replicate]
  refine ⟨by omega, ⟨by omega, by omega, by omega⟩, by rw [e1]; exact flatL_i, ?_⟩
  refine forL_inv (fun rem ds c' => ∃ (n : Nat) (r bl : List Int) (x y : Sl), rem = enumD n (r.map .int) ∧ n + r.length = bits.length ∧ bit01 r ∧ bl.length = (bits.length + 31) / 32 ∧ ds = [.sh (dI bits), .ow (dI bl), x, y] ∧ c' = c) ?_ ?_ _ _ _ ⟨0, bits, _, _, _, rfl, by simp, h2, ?_, by rw [e1], rfl⟩
  · rintro x rem ds c' nx ⟨n, r, bl, s1, s2, e, hn, hb, hbl, rfl, rfl⟩ hnx
    cases r with
    | nil => cases e
    | cons b r =>
      rw [List.map_cons] at e
      unfold enumD at e
      cases e
      have hlen : n < bits.length := by rw [List.length_cons] at hn; omega
      have hb1 : b = 0 ∨ b = 1 := hb b List.mem_cons_self
      have hbr : bit01 r := fun z hz => hb z (List.mem_cons_of_mem _ hz)
      have hn2 : n + 1 + r.length = bits.length := by rw [List.length_cons] at hn; omega
      rcases hb1 with rfl | rfl
      · simp
        exact hnx _ _ ⟨n + 1, r, bl, _, _, rfl, hn2, hbr, hbl, rfl, rfl⟩
      · have hi : ((n : Int) / 32) < bl.length := by omega
        obtain ⟨v, hv, _⟩ := atI_some (l := bl) (k := (n : Int) / 32) (by omega) hi
        simp [hv]
        refine ⟨⟨by omega, by omega⟩, ?_⟩
        rw [ixN_in (by omega) hi]
        refine hnx _ _ ⟨n + 1, r, bl.set ((n : Int) / 32).toNat (Builtin.bitOr v (2 ^ ((n : Int) % 32).toNat)), _, _, rfl, hn2, hbr, by rw [List.length_set]; exact hbl, by unfold dI; rw [List.map_set], rfl⟩
  · rintro ds c' ⟨n, r, bl, s1, s2, e, hn, hb, hbl, rfl, rfl⟩
    simp
    exact hQ bl hbl
  · simp
    omega

theorem ups_map (lo k : Int) (n : Nat) : ups lo k n = (List.range n).map fun i => D.int (lo + (i : Nat) * k) := rfl
theorem p_ones_in (args : List D) (c : Nat) (Qd : D → Nat → Prop) (Ed : Str → Nat → Prop) (hl : args.length = 2) (h : sp_ones_in args c Qd Ed) : b_ones_in (fun x _ c => Ed x c) { nx := fun _ c => Qd .non c, rt := Qd } (startD N_ones_in args) c := by
  obtain ⟨b, n, rfl, h1, hQ⟩ := h
  have e0 : startD N_ones_in [.int b, .int n] = [.sh (.int b), .sh (.int n), .un] := rfl
  rw [e0]
  unfold b_ones_in
  simp [fit]
  refine ⟨by omega, rfl, ?_⟩
  rw [ups_map]
  refine lcL_map _ (fun i : Nat => .int (Builtin.bitAnd (b / 2 ^ i) 1)) _ (by rw [List.length_range, sizeLine_eq]; omega) (fun x Q' hx hq => ?_) ?_
  · simp [wipeD]
    exact hq
  · have e : (List.range n.toNat).map (fun i : Nat => D.int (Builtin.bitAnd (b / 2 ^ i) 1)) = ((List.range n.toNat).map (fun i : Nat => Builtin.bitAnd (b / 2 ^ i) 1)).map .int := by rw [List.map_map]; rfl
    rw [e, dSum_i]
    exact hQ _
theorem p_ones_table (args : List D) (c : Nat) (Qd : D → Nat → Prop) (Ed : Str → Nat → Prop) (hl : args.length = 1) (h : sp_ones_table args c Qd Ed) : b_ones_table (fun x _ c => Ed x c) { nx := fun _ c => Qd .non c, rt := Qd } (startD N_ones_table args) c := by
  obtain ⟨bl, rfl, h1, hQ⟩ := h
  have e0 : startD N_ones_table [dI bl] = [.sh (dI bl), .un, .un] := rfl
  rw [e0]
  unfold b_ones_table
  have hz : sizeLine = 16777216 := sizeLine_eq
  simp
  refine ⟨by omega, ?_⟩
  refine forL_inv (fun rem ds c' => ∃ (r t : List Int) (x : Sl), rem = r.map .int ∧ t ≠ [] ∧ t.length + r.length ≤ 1001 ∧ ds = [.sh (dI bl), .ow (dI t), x] ∧ c' = c) ?_ ?_ _ _ _ ⟨bl, [0], _, rfl, by simp, by simp; omega, rfl, rfl⟩
  · rintro x rem ds c' nx ⟨r, t, s1, e, ht, hn, rfl, rfl⟩ hnx
    cases r with
    | nil => cases e
    | cons b r =>
      cases e
      obtain ⟨v, hv, _⟩ := atI_last ht
      simp [dNeg, hv]
      refine ⟨b, 32, rfl, by omega, fun w => ?_⟩
      simp at hn
      refine ⟨by omega, hnx _ _ ⟨r, t ++ [v + w], _, rfl, by simp, by simp; omega, by unfold dI; rw [List.map_append]; rfl, rfl⟩⟩
  · rintro ds c' ⟨r, t, s1, e, ht, hn, rfl, rfl⟩
    simp
    exact hQ t
theorem p_kept_row (args : List D) (c : Nat) (Qd : D → Nat → Prop) (Ed : Str → Nat → Prop) (hl : args.length = 1) (h : sp_kept_row args c Qd Ed) : b_kept_row (fun x _ c => Ed x c) { nx := fun _ c => Qd .non c, rt := Qd } (startD N_kept_row args) c := by
  obtain ⟨bits, rfl, h1, h2, hQ⟩ := h
  have e0 : startD N_kept_row [dI bits] = [.sh (dI bits), .un] := rfl
  rw [e0]
  unfold b_kept_row
  have hz : sizeLine = 16777216 := sizeLine_eq
  simp
  refine ⟨bits, rfl, h1, h2, fun bl hbl => ?_⟩
  simp
  refine ⟨bl, rfl, by omega, fun t => ?_⟩
  simp
  exact ⟨by omega, hQ t bl (by omega)⟩
theorem p_levels_for (args : List D) (c : Nat) (Qd : D → Nat → Prop) (Ed : Str → Nat → Prop) (hl : args.length = 1) (h : sp_levels_for args c Qd Ed) : b_levels_for (fun x _ c => Ed x c) { nx := fun _ c => Qd .non c, rt := Qd } (startD N_levels_for args) c := by
  obtain ⟨k, rfl, h1, hQ⟩ := h
  have e0 : startD N_levels_for [.int k] = [.sh (.int k), .un, .un] := rfl
  rw [e0]
  unfold b_levels_for
  simp
  refine ⟨fun m ds c' => ∃ l : Nat, ds = [.sh (.int k), .sh (.int l), .sh (.int (2 ^ l : Nat))] ∧ l ≤ 12 ∧ m = 13 - l ∧ c' = c, ⟨13, 0, rfl, by omega, rfl, rfl⟩, ?_⟩
  rintro m ds c' ⟨l, rfl, hl, rfl, rfl⟩
  simp
  by_cases hk : (2 ^ l : Int) < k
  · rw [if_pos hk]
    have h12 : l < 12 := by
      rcases Nat.lt_or_ge l 12 with z | z
      · exact z
      · have : l = 12 := by omega
        subst this
        exact absurd hk (by omega)
    simp [dInt]
    refine ⟨12 - l, by omega, l + 1, ⟨by omega, ?_⟩, by omega, by omega⟩
    rw [Int.pow_succ]
    omega
  · rw [if_neg hk]
    exact hQ l (by omega) (by omega)
theorem filt_len (l : List Int) (p q : Int → Bool) (h : ∀ x, p x = true → q x = true → False) : (l.filter p).length + (l.filter q).length ≤ l.length := by
  induction l with
  | nil => simp
  | cons x l ih =>
    simp only [List.filter_cons]
    by_cases hp : p x = true <;> by_cases hq : q x = true
    · exact (h x hp hq).elim
    all_goals simp [hp, hq]; omega
theorem p_kept_signs (args : List D) (c : Nat) (Qd : D → Nat → Prop) (Ed : Str → Nat → Prop) (hl : args.length = 1) (h : sp_kept_signs args c Qd Ed) : b_kept_signs (fun x _ c => Ed x c) { nx := fun _ c => Qd .non c, rt := Qd } (startD N_kept_signs args) c := by
  obtain ⟨sg, rfl, h1, h2, h3⟩ := h
  have e0 : startD N_kept_signs [dI sg] = [.sh (dI sg), .un, .un, .un, .un, .un, .un, .un, .un, .un, .un, .un] := rfl
  rw [e0]
  unfold b_kept_signs
  have hz : sizeLine = 16777216 := sizeLine_eq
  by_cases hn : 4096 < sg.length
  · have hn' : (4096 : Int) < (sg.length : Int) := by omega
    simp [hn']
    exact h1 hn
  have hn' : ¬ (4096 : Int) < (sg.length : Int) := by omega
  have hn4 : sg.length ≤ 4096 := by omega
  simp [hn']
  refine forL_inv (fun rem ds c' => ∃ (a r : List Int) (x : Sl), sg = a ++ r ∧ rem = r.map .int ∧ (∀ z ∈ a, ¬ farS z) ∧ (∀ d, x ≠ .ow d) ∧ ds = [.sh (dI sg), x, .un, .un, .un, .un, .un, .un, .un, .un, .un, .un] ∧ c' = c) ?_ ?_ _ _ _ ⟨[], sg, _, rfl, rfl, by simp, by simp, rfl, rfl⟩
  · rintro x rem ds c' nx ⟨a, r, s1, ea, er, hf, hs, rfl, rfl⟩ hnx
    cases r with
    | nil => cases er
    | cons b r =>
      cases er
      simp
      by_cases hb : farS b
      · have hE := h2 hn4 ⟨b, by rw [ea]; simp, hb⟩
        unfold farS FARV at hb
        rcases hb with hb | hb
        · rw [if_pos (by omega)]
          exact hE
        · split
          · exact hE
          · rw [if_pos (by omega)]
            exact hE
      · have hb2 := hb
        unfold farS FARV at hb2
        rw [if_neg (by omega), if_neg (by omega)]
        refine hnx _ _ ⟨a ++ [b], r, _, by rw [ea]; simp, rfl, ?_, by simp, rfl, rfl⟩
        intro z hz'
        rw [List.mem_append, List.mem_singleton] at hz'
        rcases hz' with hz' | rfl
        · exact hf z hz'
        · exact hb
  · rintro ds c' ⟨a, r, s1, ea, er, hf, hs, rfl, rfl⟩
    have : r = [] := by cases r with | nil => rfl | cons _ _ => cases er
    subst this
    rw [List.append_nil] at ea
    subst ea
    obtain ⟨hL, hQ⟩ := h3 hn4 hf
    simp only [sSq_e, sSh_e]
    rw [eSoS_i (l := sg) (fun R => by simp)]
    simp
    refine ⟨hL, fun kd hp hm => ?_⟩
    have hkl : kd.length < 4096 := by
      obtain ⟨L, l1, l2⟩ := hL
      have := L2.nodup_le (hp.imp fun h => Int.ne_of_lt h) fun x hx => l1 x ((hm x).mp hx)
      unfold scanBound at l2
      omega
    refine forL_inv (fun rem ds c'' => ∃ (n : Nat) (a r : List Int) (ks : List Key) (es : List D) (x y : Sl), kd = a ++ r ∧ rem = enumD n (r.map .int) ∧ ks.length = es.length ∧ ks.length ≤ a.length ∧ (∀ e ∈ es, ∃ i, e = .int i) ∧ (∀ z ∈ a, ∃ i, dLook ks es (.inl z) = some (.int i)) ∧ (∀ d, x ≠ .ow d) ∧ (∀ d, y ≠ .ow d) ∧
      ds = [.sh (dI sg), x, .sh (dI kd), .ow (.dct ks es), y, .un, .un, .un, .un, .un, .un, .un] ∧ c'' = c') ?_ ?_ _ _ _ ⟨0, [], kd, [], [], _, _, rfl, rfl, rfl, Nat.le_refl _, by simp, by simp, hs, by simp, rfl, rfl⟩
    · rintro x rem ds c'' nx ⟨n, a, r, ks, es, s1, s2, ea, er, e1, e2, e3, e4, e5, e6, rfl, rfl⟩ hnx
      cases r with
      | nil => cases er
      | cons b r =>
        rw [List.map_cons] at er
        unfold enumD at er
        cases er
        have hla : a.length < 4096 := by
          have := congrArg List.length ea
          simp at this
          omega
        simp
        refine ⟨by omega, hnx _ _ ⟨n + 1, a ++ [b], r, _, _, _, _, by rw [ea]; simp, rfl, (dPut_len e1).1, ?_, dPut_all e3 ⟨_, rfl⟩, ?_, by simp, by simp, rfl, rfl⟩⟩
        · have := (dPut_len (k := .inl b) (d := .int (n : Nat)) e1).2
          simp
          omega
        · intro z hz'
          rw [dLook_put e1]
          split
          · exact ⟨_, rfl⟩
          · next hne =>
            rw [List.mem_append, List.mem_singleton] at hz'
            rcases hz' with hz' | rfl
            · exact e4 z hz'
            · exact absurd rfl hne
    · rintro ds c'' ⟨n, a, r, ks, es, s1, s2, ea, er, e1, e2, e3, e4, e5, e6, rfl, rfl⟩
      have : r = [] := by cases r with | nil => rfl | cons _ _ => (rw [List.map_cons] at er; cases er)
      subst this
      rw [List.append_nil] at ea
      subst ea
      simp
      refine ⟨noOw_one rfl e5, ?_⟩
      refine lcL_inv (fun rem acc c4 => ∃ (r l : List Int), rem = r.map .int ∧ (∀ z ∈ r, z ∈ sg) ∧ acc = l.map .int ∧ l.length + r.length = sg.length ∧ c4 = c'') ?_ ?_ _ _ _ ⟨sg, [], rfl, fun _ z => z, rfl, by simp, rfl⟩
      · rintro x rem acc c4 nx ⟨r, l, er, hr, rfl, hlen, rfl⟩ hnx
        cases r with
        | nil => cases er
        | cons b r =>
          cases er
          obtain ⟨i, hi⟩ := e4 b ((hm b).mpr (hr b List.mem_cons_self))
          simp [wipeD]
          rw [dIx_d hi rfl]
          simp at hlen
          simp
          exact ⟨by omega, hnx _ _ ⟨r, l ++ [i], rfl, fun z hz => hr z (List.mem_cons_of_mem _ hz), by simp, by simp; omega, rfl⟩⟩
      · rintro acc c4 ⟨r, row, er, hr, rfl, hlen, rfl⟩
        have : r = [] := by cases r with | nil => rfl | cons _ _ => cases er
        subst this
        simp at hlen
        refine ⟨kd.length, rfl, by omega, fun v v0 v1 => ?_⟩
        simp
        refine ⟨by omega, ?_⟩
        have e7 : ups (max v 0 - 1) (-1) v.toNat = ((List.range v.toNat).map fun i : Nat => max v 0 - 1 + (i : Int) * (-1)).map .int := by rw [ups_map, List.map_map]; rfl
        rw [e7]
        refine forL_inv (fun rem ds c5 => ∃ (ws : List Int) (done : Nat) (row bl : List Int) (ah : List D) (s1 s4 s8 s9 s10 s11 : Sl), rem = ws.map .int ∧ (∀ w ∈ ws, 0 ≤ w) ∧ ws.length + done ≤ 12 ∧ row.length ≤ 4096 ∧ flatL ah = true ∧ ah.length ≤ done ∧ bl.length ≤ 129 * done ∧ (∀ d, s4 ≠ .ow d) ∧
          ds = [.sh (dI sg), s1, .sh (dI kd), .ow (.dct ks es), s4, .sh (dI row), .ow (.lst ah), .ow (dI bl), s8, s9, s10, s11] ∧ c5 = c4) ?_ ?_ _ _ _ ⟨_, 0, row, [], [], _, s2, _, _, _, _, rfl, ?_, by simp; omega, by omega, rfl, Nat.le_refl _, Nat.le_refl _, e6, rfl, rfl⟩
        · rintro x rem ds c5 nx ⟨ws, done, row, bl, ah, t1, t4, t8, t9, t10, t11, er, w0, w1, w2, w3, w4, w5, w6, rfl, rfl⟩ hnx
          cases ws with
          | nil => cases er
          | cons wt ws =>
            cases er
            have hw : 0 ≤ wt := w0 wt List.mem_cons_self
            have hb : bit01 (row.map fun r => Builtin.bitAnd (r / 2 ^ wt.toNat) 1) := by
              intro b hb
              obtain ⟨r, _, rfl⟩ := List.mem_map.mp hb
              rw [PyProof.Rows.bitAnd_m1]
              omega
            simp
            refine ⟨noOw_one rfl w6, ?_⟩
            refine lcL_map D.int (fun r => .int (Builtin.bitAnd (r / 2 ^ wt.toNat) 1)) row (by omega) (fun r Q' hr hq => ?_) ?_
            · simp [wipeD]
              exact ⟨hw, hq⟩
            · refine ⟨row.map fun r => Builtin.bitAnd (r / 2 ^ wt.toNat) 1, by unfold dI; rw [List.map_map]; rfl, by rw [List.length_map]; omega, hb, fun t bl2 hbl2 => ?_⟩
              simp at w1
              simp
              rw [dIx_t (d := .tup (t.map .int)) rfl (by simp)]
              simp
              refine ⟨by omega, by omega, noOw_one rfl w6, ?_⟩
              refine lcL_filter D.int (fun r => decide (Builtin.bitAnd (r / 2 ^ wt.toNat) 1 = 0)) D.int row (by omega) (fun r QT QF Q' hr h1 h0 => ?_) ?_
              · simp [wipeD]
                refine ⟨hw, ?_⟩
                split
                · next z => exact h1 (decide_eq_true z)
                · next z => exact h0 (decide_eq_false z)
              · refine ⟨noOw_one rfl w6, ?_⟩
                refine lcL_filter D.int (fun r => decide (Builtin.bitAnd (r / 2 ^ wt.toNat) 1 = 1)) D.int row (by omega) (fun r QT QF Q' hr h1 h0 => ?_) ?_
                · simp [wipeD]
                  refine ⟨hw, ?_⟩
                  split
                  · next z => exact h1 (decide_eq_true z)
                  · next z => exact h0 (decide_eq_false z)
                · have hfl := filt_len row (fun r => decide (Builtin.bitAnd (r / 2 ^ wt.toNat) 1 = 0)) (fun r => decide (Builtin.bitAnd (r / 2 ^ wt.toNat) 1 = 1)) (fun r h1 h2 => by
                    have h1 := of_decide_eq_true h1
                    have h2 := of_decide_eq_true h2
                    omega)
                  simp
                  refine ⟨by omega, hnx _ _ ⟨ws, done + 1, row.filter (fun r => decide (Builtin.bitAnd (r / 2 ^ wt.toNat) 1 = 0)) ++ row.filter (fun r => decide (Builtin.bitAnd (r / 2 ^ wt.toNat) 1 = 1)), bl ++ bl2, ah ++ [.tup (t.map .int)], t1, t4, .sh (.tup [.int row.length, .tup (t.map .int)]), .sh (dI bl2), .sh (dI (row.filter (fun r => decide (Builtin.bitAnd (r / 2 ^ wt.toNat) 1 = 0)))), .sh (.int wt), rfl, fun w hw => w0 w (List.mem_cons_of_mem _ hw), by omega, by rw [List.length_append]; omega, ?_, by simp; omega, by rw [List.length_append]; omega, w6, ?_, rfl⟩⟩
                  · rw [flatL_app, w3]; simp
                  · unfold dI
                    rw [List.map_append, List.map_append]
        · rintro ds c5 ⟨ws, done, row, bl, ah, t1, t4, t8, t9, t10, t11, er, w0, w1, w2, w3, w4, w5, w6, rfl, rfl⟩
          simp [w3]
          exact ⟨by omega, by omega, hQ _ _ bl (by simp) (by simp [w3])⟩
        · intro w hw
          obtain ⟨i, hi, rfl⟩ := List.mem_map.mp hw
          have := List.mem_range.mp hi
          omega
end LW

set_option Elab.async false
set_option linter.all false
set_option maxRecDepth 100000
set_option maxHeartbeats 4000000
namespace LW
open PySem PySem.Spec L2 DL
@[simp] theorem eIsT_e {T : String} {f : DE} {ds : DSt} {c : Nat} {Q : D → Nat → Prop} : eIsT T f ds c Q = f ds c fun d c' => (tyS d).isSome = true ∧ Q (.bl (isTy T d)) c' := rfl
@[simp] theorem eAn_e {f g : DE} {ds : DSt} {c : Nat} {Q : D → Nat → Prop} : eAn f g ds c Q = f ds c fun d c' => match d with | .bl true => g ds c' Q | .bl false => Q (.bl false) c' | _ => False := by
  unfold eAn
  rfl
@[simp] theorem eNt_e {f : DE} {ds : DSt} {c : Nat} {Q : D → Nat → Prop} : eNt f ds c Q = f ds c fun d c' => match d with | .bl b => Q (.bl !b) c' | _ => False := by
  unfold eNt
  rfl
def isEQ (d : D) (a : Addr) (b : Bool) (c : Nat) (Q : D → Nat → Prop) : Prop := match d with
  | .exc a' _ => a' = a ∧ Q (.bl b) c
  | _ => False
@[simp] theorem isEQ_e {a a' b' : Addr} {b : Bool} {c : Nat} {Q : D → Nat → Prop} : isEQ (.exc a' b') a b c Q = (a' = a ∧ Q (.bl b) c) := rfl
@[simp] theorem eIsE_e {i : Nat} {a : Addr} {d : D} {b : Bool} {ds : DSt} {c : Nat} {Q : D → Nat → Prop} (h : ds[i]? = some (.sh d)) : eIsE i a b ds c Q = isEQ d a b c Q := by
  unfold eIsE isEQ
  rw [h]
  cases d <;> rfl
theorem p__law_cell_at (args : List D) (c : Nat) (Qd : D → Nat → Prop) (Ed : Str → Nat → Prop) (hl : args.length = 2) (h : sp__law_cell_at args c Qd Ed) : b__law_cell_at (fun x _ c => Ed x c) { nx := fun _ c => Qd .non c, rt := Qd } (startD N__law_cell_at args) c := by
  obtain ⟨s, k, rfl, h0, hQ⟩ := h
  have e0 : startD N__law_cell_at [.scr s, .int k] = [.sh (.scr s), .sh (.int k)] := rfl
  rw [e0]
  unfold b__law_cell_at
  simp
  by_cases hk : k < s.length
  · rw [if_pos hk] at hQ
    rw [if_pos hk, atI_get h0 hk]
    have hk2 : k.toNat < s.length := by omega
    rw [List.getD_eq_getElem?_getD, List.getElem?_eq_getElem hk2] at hQ
    rw [List.getElem?_eq_getElem hk2]
    exact hQ
  · rw [if_neg hk] at hQ
    rw [if_neg hk]
    exact hQ
theorem p__law_whole (args : List D) (c : Nat) (Qd : D → Nat → Prop) (Ed : Str → Nat → Prop) (hl : args.length = 1) (h : sp__law_whole args c Qd Ed) : b__law_whole (fun x _ c => Ed x c) { nx := fun _ c => Qd .non c, rt := Qd } (startD N__law_whole args) c := by
  obtain ⟨d, rfl, h0, hQ⟩ := h
  have e0 : startD N__law_whole [d] = [.sh d] := rfl
  rw [e0]
  unfold b__law_whole
  simp
  refine ⟨h0, ?_⟩
  cases e : isTy "int" d
  · rw [e] at hQ
    simpa using hQ
  · rw [e] at hQ
    simpa [h0] using hQ
theorem p__law_others (x : Str) (a : Addr) (args : List D) (c : Nat) (Qd : D → Nat → Prop) (Ed : Str → Nat → Prop) (hl : args.length = 1) (h : sp__law_others x a args c Qd Ed) : b__law_others x a { nx := fun _ c => Qd .non c, rt := Qd } (startD N__law_others args) c := by
  obtain ⟨rfl, hx, hQ⟩ := h
  have e0 : startD N__law_others [.exc a 0] = [.sh (.exc a 0)] := rfl
  rw [e0]
  unfold b__law_others
  have e1 : ([CR.own "NoBit", .own "NoNode", .own "NoOctets", .own "NoPlace"].any (MG.isB x)) = false := by
    rcases hx with rfl | rfl <;> decide +kernel
  have e2 : ([CR.own "NoTree", .own "NoWord", .own "Twice"].any (MG.isB x)) = false := by
    rcases hx with rfl | rfl <;> decide +kernel
  rw [e1, e2]
  simp
  exact hQ
theorem p__law_due (args : List D) (c : Nat) (Qd : D → Nat → Prop) (Ed : Str → Nat → Prop) (hl : args.length = 2) (h : sp__law_due args c Qd Ed) : b__law_due (fun x _ c => Ed x c) { nx := fun _ c => Qd .non c, rt := Qd } (startD N__law_due args) c := by
  obtain ⟨s, b, rfl, hQ⟩ := h
  have e0 : startD N__law_due [dI s, .bl b] = [.sh (dI s), .sh (.bl b)] := rfl
  rw [e0]
  unfold b__law_due
  have hz : sizeLine = 16777216 := sizeLine_eq
  simp [hz]
  unfold due at hQ
  by_cases hk : 4096 < s.length
  · rw [if_pos hk] at hQ
    rw [if_pos (by omega)]
    exact hQ
  · rw [if_neg hk] at hQ
    rw [if_neg (by omega)]
    cases b
    · exact hQ
    · exact hQ
theorem p__law_told (args : List D) (c : Nat) (Qd : D → Nat → Prop) (Ed : Str → Nat → Prop) (hl : args.length = 1) (h : sp__law_told args c Qd Ed) : b__law_told (fun x _ c => Ed x c) { nx := fun _ c => Qd .non c, rt := Qd } (startD N__law_told args) c := by
  obtain ⟨s, rfl, hL, hQ⟩ := h
  have e0 : startD N__law_told [dI s] = [.sh (dI s), .un, .un, .un] := rfl
  rw [e0]
  unfold b__law_told
  have hz : sizeLine = 16777216 := sizeLine_eq
  simp [hz, sTry]
  refine ⟨s, rfl, fun h1 => ⟨by decide +kernel, ?_⟩, fun h1 h2 => ⟨by decide +kernel, ?_⟩, fun h1 h2 => ⟨hL h1, fun x y z fx fy => ?_⟩⟩
  · have i1 : MG.sub "TooMany" "TooMany" = true := by decide +kernel
    have i2 : MG.isB "TooMany" (.own "WoodError") = true := by decide +kernel
    have i3 : MG.isB "TooMany" (.ty "ValueError") = true := by decide +kernel
    have i4 : MG.isB "TooMany" (.own "NoSign") = false := by decide +kernel
    unfold hdl
    rw [if_pos i1]
    intro a
    simp [i2, i3, i4, hz]
    refine ⟨rfl, .inl rfl, ?_⟩
    simp
    have e1 : dEq (.lst [.int 1, .bl true, .bl true, .bl false, .bl false]) (.lst [.int 0]) = some (.bl false) := rfl
    rw [e1]
    simp
    unfold told at hQ
    rw [if_pos h1] at hQ
    exact hQ
  · have i1 : MG.sub "NoSign" "TooMany" = false := by decide +kernel
    have i5 : MG.sub "NoSign" "NoSign" = true := by decide +kernel
    have i2 : MG.isB "NoSign" (.own "WoodError") = true := by decide +kernel
    have i3 : MG.isB "NoSign" (.ty "ValueError") = true := by decide +kernel
    have i4 : MG.isB "NoSign" (.own "TooMany") = false := by decide +kernel
    unfold hdl
    rw [if_neg (by rw [i1]; decide)]
    unfold hdl
    rw [if_pos i5]
    intro a
    simp [i2, i3, i4, hz]
    refine ⟨rfl, .inr rfl, ?_⟩
    simp
    have e1 : dEq (.lst [.int 2, .bl true, .bl true, .bl false, .bl false]) (.lst [.int 0]) = some (.bl false) := rfl
    rw [e1]
    simp
    unfold told at hQ
    rw [if_neg (by omega), if_pos ?_] at hQ
    · exact hQ
    · obtain ⟨x, hx, hf⟩ := h2
      refine List.any_eq_true.mpr ⟨x, hx, ?_⟩
      unfold farS at hf
      simpa using hf
  · have e1 : dEq (.lst [.int 0]) (.lst [.int 0]) = some (.bl true) := rfl
    have e2 : dIx (.tup [.tup [.int s.length, x, y], dI z]) (.int 0) = some (.tup [.int s.length, x, y]) := dIx_t rfl (by simp [fx, fy])
    have e3 : dIx (.tup [.int s.length, x, y]) (.int 0) = some (.int s.length) := dIx_t rfl rfl
    simp [e1, e2, e3]
    refine ⟨_, rfl, rfl, ?_⟩
    have e4 : (isTy "int" (.int s.length) && !isTy "bool" (.int s.length)) = true := by
      show (isK "int" "int" && !isK "bool" "int") = true
      decide +kernel
    rw [e4]
    simp
    unfold told at hQ
    rw [if_neg (by omega), if_neg ?_] at hQ
    · exact hQ
    · intro hh
      obtain ⟨x, hx, hf⟩ := List.any_eq_true.mp hh
      refine h2 x hx ?_
      unfold farS
      simpa using hf
end LW

set_option Elab.async false
set_option linter.all false
set_option maxRecDepth 100000
set_option maxHeartbeats 4000000
namespace LW
open PySem PySem.Spec L2 DL
@[simp] theorem eSl_e {f : DE} {l h : DO} {ds : DSt} {c : Nat} {Q : D → Nat → Prop} : eSl f l h ds c Q = f ds c fun x c1 => l ds c1 fun lo c2 => h ds c2 fun hi c3 => opt (dSl x lo hi) c3 Q := rfl
@[simp] theorem oS_e {f : DE} {ds : DSt} {c : Nat} {Q : Option Int → Nat → Prop} : oS f ds c Q = f ds c fun d c' => match d with | .int n => Q (some n) c' | _ => False := by
  unfold oS
  rfl
@[simp] theorem oN_e {ds : DSt} {c : Nat} {Q : Option Int → Nat → Prop} : oN ds c Q = Q none c := rfl
@[simp] theorem dSl_scr {ns : List Int} {lo hi : Option Int} : dSl (.scr ns) lo hi = some (.lst ((cut ns lo hi).map .int)) := rfl
@[simp] theorem eOr_e {f g : DE} {ds : DSt} {c : Nat} {Q : D → Nat → Prop} : eOr f g ds c Q = f ds c fun d c' => match d with | .bl true => Q (.bl true) c' | .bl false => g ds c' Q | _ => False := by
  unfold eOr
  rfl
theorem cut_len {ns : List Int} : (cut ns (some 4) (some 63)).length ≤ 59 := by
  unfold cut
  rw [List.length_take, List.length_drop]
  have e1 : HT.sIx ns.length 0 (some 4) = min 4 ns.length := HT.sIx_nat _ _ 4
  have e2 : HT.sIx ns.length ns.length (some 63) = min 63 ns.length := HT.sIx_nat _ _ 63
  rw [e1, e2]
  omega
theorem eqOkL_ints (n : Nat) (l : List Int) : eqOkL n (l.map .int) = true := by
  induction l with
  | nil => simp [eqOkL]
  | cons x l ih => simp [eqOkL, eqOk, ih]
theorem eqvL_ints (l m : List Int) : eqvL (l.map .int) (m.map .int) = decide (l = m) := by
  induction l generalizing m with
  | nil => cases m <;> simp [eqvL]
  | cons x l ih =>
    cases m with
    | nil => simp [eqvL]
    | cons y m =>
      simp only [List.map_cons, eqvL, eqv, ih]
      by_cases h : x = y <;> by_cases h2 : l = m <;> simp [h, h2]
theorem dEq_dI (l m : List Int) : dEq (dI l) (dI m) = some (.bl (decide (l = m))) := by
  have h : eqAny (dI l) (dI m) = true := by
    show (scalD (dI l) (dI m) || (eqOkL 7 (l.map .int) && eqOkL 7 (m.map .int))) = true
    rw [eqOkL_ints, eqOkL_ints]
    simp
  have e : eqv (dI l) (dI m) = decide (l = m) := eqvL_ints l m
  unfold dEq
  rw [if_pos h, e]
theorem dNe_dI (l m : List Int) : dNe (dI l) (dI m) = some (.bl !(decide (l = m))) := by
  have h : eqAny (dI l) (dI m) = true := by
    show (scalD (dI l) (dI m) || (eqOkL 7 (l.map .int) && eqOkL 7 (m.map .int))) = true
    rw [eqOkL_ints, eqOkL_ints]
    simp
  have e : eqv (dI l) (dI m) = decide (l = m) := eqvL_ints l m
  unfold dNe
  rw [if_pos h, e]
theorem due_self (n : Nat) (b : Bool) : dNe (.lst (due n b)) (.lst (due n b)) = some (.bl false) ∧ dEq (.lst (due n b)) (.lst (due n b)) = some (.bl true) := by
  unfold due
  split
  · exact ⟨rfl, rfl⟩
  · cases b
    · exact ⟨rfl, rfl⟩
    · exact ⟨rfl, rfl⟩
theorem told_due {s : List Int} {b : Bool} (h : b = true ↔ ∃ x ∈ s, farS x) : told s = due s.length b := by
  unfold told due
  have e : (s.any fun x => decide (x ≤ -FARV) || decide (FARV ≤ x)) = b := by
    cases b with
    | true =>
      obtain ⟨x, hx, hf⟩ := h.mp rfl
      refine List.any_eq_true.mpr ⟨x, hx, ?_⟩
      unfold farS at hf
      simpa using hf
    | false =>
      rw [List.any_eq_false]
      intro x hx hf
      have hf : farS x := by
        unfold farS
        simpa using hf
      have := h.mpr ⟨x, hx, hf⟩
      cases this
  rw [e]
theorem cell_any {s : List Int} {k : Int} (h0 : 0 ≤ k) {c : Nat} {Q : D → Nat → Prop} {E : Str → Nat → Prop} (h : ∀ v : Int, Q (.int v) c) : sp__law_cell_at [.scr s, .int k] c Q E := ⟨s, k, rfl, h0, h _⟩
theorem pick2 {a b i : Int} (h0 : 0 ≤ i) (h1 : i < 2) : ∃ z : Int, (z = a ∨ z = b) ∧ dIx (.lst [.int a, .int b]) (.int i) = some (.int z) := by
  obtain ⟨z, hz, hm⟩ := atI_some (l := [a, b]) (k := i) h0 (by simpa using h1)
  refine ⟨z, by simpa using hm, ?_⟩
  have e : dIx (.lst [.int a, .int b]) (.int i) = (atI [a, b] i).map .int := dIx_ints (l := [a, b])
  rw [e, hz]
  rfl
theorem pick3 {a b d i : Int} (h0 : 0 ≤ i) (h1 : i < 3) : ∃ z : Int, (z = a ∨ z = b ∨ z = d) ∧ dIx (.lst [.int a, .int b, .int d]) (.int i) = some (.int z) := by
  obtain ⟨z, hz, hm⟩ := atI_some (l := [a, b, d]) (k := i) h0 (by simpa using h1)
  refine ⟨z, by simpa using hm, ?_⟩
  have e : dIx (.lst [.int a, .int b, .int d]) (.int i) = (atI [a, b, d] i).map .int := dIx_ints (l := [a, b, d])
  rw [e, hz]
  rfl
/-- few kinds of numbers -/
def few (s : List Int) : Prop := ∃ L : List Int, (∀ z ∈ s, z ∈ L) ∧ L.length ≤ 60
theorem few_lt {s : List Int} (h : few s) : ∃ L : List Int, (∀ z ∈ s, z ∈ L) ∧ L.length + 1 < scanBound := by
  obtain ⟨L, l1, l2⟩ := h
  exact ⟨L, l1, by unfold scanBound; omega⟩
section
variable {Qd : D → Nat → Prop} {Ed : Str → Nat → Prop} {c : Nat} (hQ : Qd (.bl true) c) {sc signs spoilt : List Int} {s2 s3 s5 s7 : Sl} {bad : Bool}
include hQ
theorem p_law_7 (h1 : ∀ z ∈ signs, ¬ farS z) (h2 : few signs) (h3 : few spoilt) (h4 : bad = true ↔ ∃ x ∈ spoilt, farS x) : b_law_7 (fun x _ c => Ed x c) { nx := fun _ c => Qd .non c, rt := Qd } [.sh (.scr sc), .ow (dI signs), s2, s3, .ow (dI spoilt), s5, .sh (.bl bad), s7, .un, .un] c := by
  unfold b_law_7
  simp
  refine ⟨spoilt, rfl, fun _ => few_lt h3, ?_⟩
  refine ⟨spoilt, bad, rfl, ?_⟩
  rw [told_due h4]
  dsimp only
  rw [(due_self _ _).1]
  simp
  rw [dNe_dI]
  simp
  cases bad with
  | false => exact hQ
  | true =>
    simp
    refine ⟨signs, rfl, fun _ => few_lt h2, ?_⟩
    simp
    refine ⟨signs, false, rfl, ?_⟩
    rw [told_due (b := false) ⟨(fun z => nomatch z), fun ⟨x, hx, hf⟩ => absurd hf (h1 x hx)⟩]
    dsimp only
    rw [(due_self _ _).2]
    exact hQ
theorem p_law_3 (h1 : ∀ z ∈ signs, ¬ farS z) (h2 : ∃ L : List Int, (∀ z ∈ signs, z ∈ L) ∧ L.length ≤ 59) : b_law_3 (fun x _ c => Ed x c) { nx := fun _ c => Qd .non c, rt := Qd } [.sh (.scr sc), .ow (dI signs), s2, s3, .un, .un, .un, .un, .un, .un] c := by
  have hf : few signs := by obtain ⟨L, l1, l2⟩ := h2; exact ⟨L, l1, by omega⟩
  unfold b_law_3
  simp
  refine cell_any (by omega) fun v => ?_
  simp
  by_cases hv : v % 2 = 1
  · rw [decide_eq_true hv]
    dsimp only
    by_cases hl : signs = []
    · subst hl
      simp
      exact p_law_7 hQ h1 hf hf ⟨(fun z => nomatch z), fun ⟨x, hx, _⟩ => nomatch hx⟩
    · have hlp : 0 < signs.length := List.length_pos_iff.mpr hl
      simp only [hlp, if_true]
      refine cell_any (by omega) fun u => ?_
      simp
      obtain ⟨a1, ha1, hd1⟩ := pick2 (a := 0) (b := u % 1000000000000000000000000000000000000000000000000000000000000) (i := v % 8 / 4) (by omega) (by omega)
      rw [hd1]
      simp
      obtain ⟨a2, ha2, hd2⟩ := pick2 (a := 1000000000000000000000000000000000000000000000000000000000000 + a1) (b := -(1000000000000000000000000000000000000000000000000000000000000 + a1)) (i := v % 8 / 2 % 2) (by omega) (by omega)
      refine ⟨by rw [sizeLine_eq]; omega, ?_⟩
      rw [hd2]
      simp
      refine cell_any (by omega) fun t => ?_
      simp [hlp]
      have hm : 0 ≤ t / 5 % (signs.length : Int) ∧ t / 5 % (signs.length : Int) < signs.length := ⟨Int.emod_nonneg _ (by omega), Int.emod_lt_of_pos _ (by omega)⟩
      rw [ixN_in hm.1 hm.2]
      have hfa : farS a2 := by
        unfold farS FARV
        rcases ha1 with rfl | rfl <;> rcases ha2 with rfl | rfl <;> omega
      have e9 : (List.map D.int signs).set (t / 5 % (signs.length : Int)).toNat (D.int a2) = (signs.set (t / 5 % (signs.length : Int)).toNat a2).map .int := by rw [List.map_set]
      dsimp only
      rw [e9]
      refine p_law_7 hQ h1 hf ?_ ⟨fun _ => ⟨a2, List.mem_set (by omega) _, hfa⟩, fun _ => rfl⟩
      obtain ⟨L, l1, l2⟩ := h2
      refine ⟨a2 :: L, fun z hz => ?_, by rw [List.length_cons]; omega⟩
      rcases List.mem_or_eq_of_mem_set hz with hz | rfl
      · exact List.mem_cons_of_mem _ (l1 z hz)
      · exact List.mem_cons_self
  · rw [decide_eq_false hv]
    exact p_law_7 hQ h1 hf hf ⟨(fun z => nomatch z), fun ⟨x, hx, hf⟩ => absurd hf (h1 x hx)⟩
theorem p_law_1 (h1 : ∀ z ∈ signs, ¬ farS z) (h2 : signs.length ≤ 59) : b_law_1 (fun x _ c => Ed x c) { nx := fun _ c => Qd .non c, rt := Qd } [.sh (.scr sc), .ow (dI signs), .un, .un, .un, .un, .un, .un, .un, .un] c := by
  unfold b_law_1
  simp
  refine cell_any (by omega) fun v => ?_
  simp
  by_cases hv : v % 8 = 3
  · simp only [hv, if_true]
    obtain ⟨a1, ha1, hd1⟩ := pick3 (a := 999999999999999999999999999999999999999999999999999999999999) (b := -999999999999999999999999999999999999999999999999999999999999) (d := v / 96 % 1000000000000000000000000000000000000000000000000000000000000) (i := v / 32 % 3) (by omega) (by omega)
    have hz : sizeLine = 16777216 := sizeLine_eq
    refine ⟨by omega, ?_⟩
    rw [hd1]
    simp
    have e1 : List.replicate (4095 + v / 8 % 4).toNat (D.int a1) = (List.replicate (4095 + v / 8 % 4).toNat a1).map .int := by rw [List.map_replicate]
    refine ⟨by omega, ⟨by omega, by omega, by omega⟩, by rw [e1]; exact flatL_i, ?_⟩
    refine cell_any (by omega) fun u => ?_
    simp
    refine cell_any (by omega) fun t => ?_
    have hm0 : (0 : Int) < max (4095 + v / 8 % 4) 0 := by omega
    simp [hm0]
    have hm : 0 ≤ t % max (4095 + v / 8 % 4) 0 ∧ t % max (4095 + v / 8 % 4) 0 < max (4095 + v / 8 % 4) 0 := ⟨Int.emod_nonneg _ (by omega), Int.emod_lt_of_pos _ hm0⟩
    have hm2 : t % max (4095 + v / 8 % 4) 0 < ((4095 + v / 8 % 4).toNat : Int) := by omega
    rw [ixN_in hm.1 hm2]
    have e9 : (List.replicate (4095 + v / 8 % 4).toNat (D.int a1)).set (t % max (4095 + v / 8 % 4) 0).toNat (D.int (u % 1000000000000000000000000000000000000000000000000000000000000)) = ((List.replicate (4095 + v / 8 % 4).toNat a1).set (t % max (4095 + v / 8 % 4) 0).toNat (u % 1000000000000000000000000000000000000000000000000000000000000)).map .int := by rw [List.map_set, e1]
    have hmem : ∀ z ∈ (List.replicate (4095 + v / 8 % 4).toNat a1).set (t % max (4095 + v / 8 % 4) 0).toNat (u % 1000000000000000000000000000000000000000000000000000000000000), z = a1 ∨ z = u % 1000000000000000000000000000000000000000000000000000000000000 := fun z hz => by
      rcases List.mem_or_eq_of_mem_set hz with hz | rfl
      · exact .inl (List.eq_of_mem_replicate hz)
      · exact .inr rfl
    dsimp only
    rw [e9]
    refine p_law_3 hQ (fun z hz => ?_) ⟨[a1, u % 1000000000000000000000000000000000000000000000000000000000000], fun z hz => ?_, by simp⟩
    · unfold farS FARV
      rcases hmem z hz with rfl | rfl
      · rcases ha1 with rfl | rfl | rfl <;> omega
      · omega
    · rcases hmem z hz with rfl | rfl <;> simp
  · simp only [hv, if_false]
    exact p_law_3 hQ h1 ⟨signs, fun z h => h, h2⟩
end
theorem p_law (args : List D) (c : Nat) (Qd : D → Nat → Prop) (Ed : Str → Nat → Prop) (hl : args.length = 1) (h : sp_law args c Qd Ed) : b_law (fun x _ c => Ed x c) { nx := fun _ c => Qd .non c, rt := Qd } (startD N_law args) c := by
  obtain ⟨s, rfl, hQ⟩ := h
  have e0 : startD N_law [.scr s] = [.sh (.scr s), .un, .un, .un, .un, .un, .un, .un, .un, .un] := rfl
  rw [e0]
  unfold b_law
  simp
  refine ⟨rfl, ?_⟩
  refine lcL_map D.int (fun x => .int (x % (2 * 1000000000000000000000000000000000000000000000000000000000000 - 1) - 1000000000000000000000000000000000000000000000000000000000000 + 1)) _ (Nat.le_trans cut_len (by rw [sizeLine_eq]; omega)) (fun x Q' hx hq => ?_) ?_
  · simp [wipeD]
    simpa using hq
  · have e : (cut s (some 4) (some 63)).map (fun x => D.int (x % (2 * 1000000000000000000000000000000000000000000000000000000000000 - 1) - 1000000000000000000000000000000000000000000000000000000000000 + 1)) = ((cut s (some 4) (some 63)).map fun x => x % (2 * 1000000000000000000000000000000000000000000000000000000000000 - 1) - 1000000000000000000000000000000000000000000000000000000000000 + 1).map .int := by rw [List.map_map]; rfl
    rw [e]
    simp only [isC_l, elF_l, flatL_i, true_and]
    refine p_law_1 hQ (fun z hz => ?_) (by rw [List.length_map]; exact cut_len)
    obtain ⟨x, _, rfl⟩ := List.mem_map.mp hz
    unfold farS FARV
    omega
end LW

set_option Elab.async false
set_option linter.all false
set_option maxRecDepth 100000
set_option maxHeartbeats 0
namespace LW
open PySem PySem.Spec L2 DL
def d_packed : He.DefD := ⟨("packed", none), "packed", "packed", defArgs (top 14), defBody (top 14), defScope (top 14), [], []⟩
def d_ones_in : He.DefD := ⟨("ones_in", none), "ones_in", "ones_in", defArgs (top 15), defBody (top 15), defScope (top 15), [], []⟩
def d_ones_table : He.DefD := ⟨("ones_table", none), "ones_table", "ones_table", defArgs (top 17), defBody (top 17), defScope (top 17), [], []⟩
def d_kept_row : He.DefD := ⟨("kept_row", none), "kept_row", "kept_row", defArgs (top 18), defBody (top 18), defScope (top 18), [], []⟩
def d_levels_for : He.DefD := ⟨("levels_for", none), "levels_for", "levels_for", defArgs (top 21), defBody (top 21), defScope (top 21), [], []⟩
def d_kept_signs : He.DefD := ⟨("kept_signs", none), "kept_signs", "kept_signs", defArgs (top 22), defBody (top 22), defScope (top 22), [], []⟩
def d__law_cell_at : He.DefD := ⟨("_law_cell_at", none), "_law_cell_at", "_law_cell_at", defArgs (top 24), defBody (top 24), defScope (top 24), [], []⟩
def d__law_whole : He.DefD := ⟨("_law_whole", none), "_law_whole", "_law_whole", defArgs (top 25), defBody (top 25), defScope (top 25), [], []⟩
def d__law_others : He.DefD := ⟨("_law_others", none), "_law_others", "_law_others", defArgs (top 26), defBody (top 26), defScope (top 26), [], []⟩
def d__law_told : He.DefD := ⟨("_law_told", none), "_law_told", "_law_told", defArgs (top 27), defBody (top 27), defScope (top 27), [], []⟩
def d__law_due : He.DefD := ⟨("_law_due", none), "_law_due", "_law_due", defArgs (top 28), defBody (top 28), defScope (top 28), [], []⟩
def d_law : He.DefD := ⟨("law", none), "law", "law", defArgs (top 29), defBody (top 29), defScope (top 29), [], []⟩
def fn : List He.DefD := [d_packed, d_ones_in, d_ones_table, d_kept_row, d_levels_for, d_kept_signs, d__law_cell_at, d__law_whole, d__law_others, d__law_told, d__law_due, d_law]
def dfs : List Str := ["packed", "ones_in", "ones_table", "kept_row", "levels_for", "kept_signs", "_law_cell_at", "_law_whole", "_law_others", "_law_told", "_law_due", "law"]
def fa : List He.Fa := dfs.map .glo ++ faM MG
abbrev R : PySem.W.OpenRow := PySem.W.OpenLaw.row PySem.Challenge.rw_thinwood_k61_signs_refused
def ex : PySem.W.Frag → Bool := exB MG
abbrev hk : PySem.W.Hook := He.hookX 4 fa fn [] [] ex
def ob (s : PySem.W.SharedT) : He.AlX := He.obsX 4 fa fn [] [] ex (HandSHeadRun.getT s)
theorem ob_eq (s : PySem.W.SharedT) : ob s = hk.obs s.abs := He.obsX_eq (HandSHeadRun.getT_eq s)
def loose : List PySem.Str := (["__name__", "WoodError", "TooMany", "NoBit", "NoPlace", "NoNode", "NoTree", "NoSign", "NoWord", "Twice", "NoOctets", "WIDE", "MOST", "packed", "ones_in", "ones_table", "kept_row", "FAR", "levels_for", "kept_signs", "_law_cell_at", "_law_whole", "_law_others", "_law_told", "_law_due"] : List PySem.Str)
theorem run (w : World) : HandSHeadRun.RunEq R (PySem.W.view R.prog [29]) hk ob 4000 loose w := by
  intro os
  kernel_rfl
section
variable {P : Program} {w : World} {K : PySem.W.Frag} {mg : Str → Option Value} {base : Heap} {W : Wd}
theorem n_packed {f : Addr} {fd : FuncData} (F : FunD K "packed" "packed" (defArgs (top 14)) (defBody (top 14)) (defScope (top 14)) [] [] f fd) (hm : mg "packed" = some (.ref f)) (hM : Mg MG K mg W.ca)  : FnD P w K mg base W 1 "packed" 1 false sp_packed :=
  fnd F hm (F.bindsN fun _ _ _ _ _ _ us hl => match us, hl with | [_], _ => rfl) fs_packed rfl ok_packed hM rfl rfl (fun _ _ _ _ _ _ _ _ _ _ B hp => w_packed B hp ⟨rfl, rfl⟩) p_packed
theorem n_ones_in {f : Addr} {fd : FuncData} (F : FunD K "ones_in" "ones_in" (defArgs (top 15)) (defBody (top 15)) (defScope (top 15)) [] [] f fd) (hm : mg "ones_in" = some (.ref f)) (hM : Mg MG K mg W.ca)  : FnD P w K mg base W 1 "ones_in" 2 false sp_ones_in :=
  fnd F hm (F.bindsN fun _ _ _ _ _ _ us hl => match us, hl with | [_, _], _ => rfl) fs_ones_in rfl ok_ones_in hM rfl rfl (fun _ _ _ _ _ _ _ _ _ _ B hp => w_ones_in B hp ⟨rfl, rfl⟩) p_ones_in
theorem n_ones_table {f : Addr} {fd : FuncData} (F : FunD K "ones_table" "ones_table" (defArgs (top 17)) (defBody (top 17)) (defScope (top 17)) [] [] f fd) (hm : mg "ones_table" = some (.ref f)) (hM : Mg MG K mg W.ca) (C_ones_in : FnD P w K mg base W 1 "ones_in" 2 false sp_ones_in) : FnD P w K mg base W 2 "ones_table" 1 false sp_ones_table :=
  fnd F hm (F.bindsN fun _ _ _ _ _ _ us hl => match us, hl with | [_], _ => rfl) fs_ones_table rfl ok_ones_table hM rfl rfl (fun _ _ _ _ _ _ _ _ _ _ B hp => w_ones_table B hp ⟨rfl, rfl⟩ C_ones_in) p_ones_table
theorem n_kept_row {f : Addr} {fd : FuncData} (F : FunD K "kept_row" "kept_row" (defArgs (top 18)) (defBody (top 18)) (defScope (top 18)) [] [] f fd) (hm : mg "kept_row" = some (.ref f)) (hM : Mg MG K mg W.ca) (C_packed : FnD P w K mg base W 1 "packed" 1 false sp_packed) (C_ones_table : FnD P w K mg base W 2 "ones_table" 1 false sp_ones_table) : FnD P w K mg base W 3 "kept_row" 1 false sp_kept_row :=
  fnd F hm (F.bindsN fun _ _ _ _ _ _ us hl => match us, hl with | [_], _ => rfl) fs_kept_row rfl ok_kept_row hM rfl rfl (fun _ _ _ _ _ _ _ _ _ _ B hp => w_kept_row B hp ⟨rfl, rfl⟩ C_packed C_ones_table) p_kept_row
theorem n_levels_for {f : Addr} {fd : FuncData} (F : FunD K "levels_for" "levels_for" (defArgs (top 21)) (defBody (top 21)) (defScope (top 21)) [] [] f fd) (hm : mg "levels_for" = some (.ref f)) (hM : Mg MG K mg W.ca)  : FnD P w K mg base W 1 "levels_for" 1 false sp_levels_for :=
  fnd F hm (F.bindsN fun _ _ _ _ _ _ us hl => match us, hl with | [_], _ => rfl) fs_levels_for rfl ok_levels_for hM rfl rfl (fun _ _ _ _ _ _ _ _ _ _ B hp => w_levels_for B hp ⟨rfl, rfl⟩) p_levels_for
theorem n_kept_signs {f : Addr} {fd : FuncData} (F : FunD K "kept_signs" "kept_signs" (defArgs (top 22)) (defBody (top 22)) (defScope (top 22)) [] [] f fd) (hm : mg "kept_signs" = some (.ref f)) (hM : Mg MG K mg W.ca) (C_levels_for : FnD P w K mg base W 1 "levels_for" 1 false sp_levels_for) (C_kept_row : FnD P w K mg base W 3 "kept_row" 1 false sp_kept_row) : FnD P w K mg base W 4 "kept_signs" 1 false sp_kept_signs :=
  fnd F hm (F.bindsN fun _ _ _ _ _ _ us hl => match us, hl with | [_], _ => rfl) fs_kept_signs rfl ok_kept_signs hM rfl rfl (fun _ _ _ _ _ _ _ _ _ _ B hp => w_kept_signs B hp ⟨rfl, rfl⟩ C_levels_for C_kept_row) p_kept_signs
theorem n__law_cell_at {f : Addr} {fd : FuncData} (F : FunD K "_law_cell_at" "_law_cell_at" (defArgs (top 24)) (defBody (top 24)) (defScope (top 24)) [] [] f fd) (hm : mg "_law_cell_at" = some (.ref f)) (hM : Mg MG K mg W.ca)  : FnD P w K mg base W 1 "_law_cell_at" 2 false sp__law_cell_at :=
  fnd F hm (F.bindsN fun _ _ _ _ _ _ us hl => match us, hl with | [_, _], _ => rfl) fs__law_cell_at rfl ok__law_cell_at hM rfl rfl (fun _ _ _ _ _ _ _ _ _ _ B hp => w__law_cell_at B hp ⟨rfl, rfl⟩) p__law_cell_at
theorem n__law_whole {f : Addr} {fd : FuncData} (F : FunD K "_law_whole" "_law_whole" (defArgs (top 25)) (defBody (top 25)) (defScope (top 25)) [] [] f fd) (hm : mg "_law_whole" = some (.ref f)) (hM : Mg MG K mg W.ca)  : FnD P w K mg base W 1 "_law_whole" 1 false sp__law_whole :=
  fnd F hm (F.bindsN fun _ _ _ _ _ _ us hl => match us, hl with | [_], _ => rfl) fs__law_whole rfl ok__law_whole hM rfl rfl (fun _ _ _ _ _ _ _ _ _ _ B hp => w__law_whole B hp ⟨rfl, rfl⟩) p__law_whole
theorem n__law_others {f : Addr} {fd : FuncData} (F : FunD K "_law_others" "_law_others" (defArgs (top 26)) (defBody (top 26)) (defScope (top 26)) [] [] f fd) (hm : mg "_law_others" = some (.ref f)) (hM : Mg MG K mg W.ca) : FnDH P w K mg base W MG 1 "_law_others" 1 sp__law_others :=
  fndH F hm (F.bindsN fun _ _ _ _ _ _ us hl => match us, hl with | [_], _ => rfl) fs__law_others rfl ok__law_others hM rfl (fun _ _ _ _ _ _ _ _ _ _ _ hy Pp hhd B => w__law_others B Pp hy hhd) p__law_others
theorem n__law_told {f : Addr} {fd : FuncData} (F : FunD K "_law_told" "_law_told" (defArgs (top 27)) (defBody (top 27)) (defScope (top 27)) [] [] f fd) (hm : mg "_law_told" = some (.ref f)) (hM : Mg MG K mg W.ca) (C_kept_signs : FnD P w K mg base W 4 "kept_signs" 1 false sp_kept_signs) (C__law_others : FnDH P w K mg base W MG 1 "_law_others" 1 sp__law_others) (C__law_whole : FnD P w K mg base W 1 "_law_whole" 1 false sp__law_whole) : FnD P w K mg base W 5 "_law_told" 1 false sp__law_told :=
  fnd F hm (F.bindsN fun _ _ _ _ _ _ us hl => match us, hl with | [_], _ => rfl) fs__law_told rfl ok__law_told hM rfl rfl (fun _ _ _ _ _ _ _ _ _ _ B hp => w__law_told B hp ⟨rfl, rfl⟩ C_kept_signs C__law_others C__law_whole) p__law_told
theorem n__law_due {f : Addr} {fd : FuncData} (F : FunD K "_law_due" "_law_due" (defArgs (top 28)) (defBody (top 28)) (defScope (top 28)) [] [] f fd) (hm : mg "_law_due" = some (.ref f)) (hM : Mg MG K mg W.ca)  : FnD P w K mg base W 1 "_law_due" 2 false sp__law_due :=
  fnd F hm (F.bindsN fun _ _ _ _ _ _ us hl => match us, hl with | [_, _], _ => rfl) fs__law_due rfl ok__law_due hM rfl rfl (fun _ _ _ _ _ _ _ _ _ _ B hp => w__law_due B hp ⟨rfl, rfl⟩) p__law_due
theorem n_law {f : Addr} {fd : FuncData} (F : FunD K "law" "law" (defArgs (top 29)) (defBody (top 29)) (defScope (top 29)) [] [] f fd) (hm : mg "law" = some (.ref f)) (hM : Mg MG K mg W.ca) (C__law_cell_at : FnD P w K mg base W 1 "_law_cell_at" 2 false sp__law_cell_at) (C__law_told : FnD P w K mg base W 5 "_law_told" 1 false sp__law_told) (C__law_due : FnD P w K mg base W 1 "_law_due" 2 false sp__law_due) : FnOk P w K mg base (L2N.CX P w) 6 f fd ["_law_script"] (liftSp W 1 false sp_law) :=
  fnd_ok F hm (F.bindsN fun _ _ _ _ _ _ us hl => match us, hl with | [_], _ => rfl) fs_law rfl ok_law hM rfl rfl (fun _ _ _ _ _ _ _ _ _ _ B hp => w_law B hp ⟨rfl, rfl⟩ C__law_cell_at C__law_told C__law_due) p_law
end
theorem facts {P : Program} {w : World} {K : PySem.W.Frag} {h : Heap} {mg : Str → Option Value} {f : Addr} (X : K.In h) (G : h.Ns mainGlobals mg) (hfa : mg ("law" : Str) = some (.ref f)) (c : He.SaysX fa fn [] [] ex w h K) :
    ∃ fd : FuncData, (∀ (s : Shared) (v : Value), BindsTo s fd ⟨[v], []⟩ [("_law_script", v)]) ∧ ∀ base : Heap, K.In base → base.Ns mainGlobals mg → FnOk P w K mg base (L2N.CX P w) 6 f fd ["_law_script"] (liftSp ⟨[], He.ga K⟩ 1 false sp_law) := by
  have hM : Mg MG K mg (He.ga K) := mg_of X G (fun f hf => c.t.d.facts (List.mem_append_right _ hf)) c.more
  obtain ⟨fd_packed, F_packed⟩ := c.t.d.def_ 0 (d := d_packed) rfl
  have g_packed := He.glo_ok X G (c.t.d.fact 0 (f := .glo "packed") rfl)
  obtain ⟨fd_ones_in, F_ones_in⟩ := c.t.d.def_ 1 (d := d_ones_in) rfl
  have g_ones_in := He.glo_ok X G (c.t.d.fact 1 (f := .glo "ones_in") rfl)
  obtain ⟨fd_ones_table, F_ones_table⟩ := c.t.d.def_ 2 (d := d_ones_table) rfl
  have g_ones_table := He.glo_ok X G (c.t.d.fact 2 (f := .glo "ones_table") rfl)
  obtain ⟨fd_kept_row, F_kept_row⟩ := c.t.d.def_ 3 (d := d_kept_row) rfl
  have g_kept_row := He.glo_ok X G (c.t.d.fact 3 (f := .glo "kept_row") rfl)
  obtain ⟨fd_levels_for, F_levels_for⟩ := c.t.d.def_ 4 (d := d_levels_for) rfl
  have g_levels_for := He.glo_ok X G (c.t.d.fact 4 (f := .glo "levels_for") rfl)
  obtain ⟨fd_kept_signs, F_kept_signs⟩ := c.t.d.def_ 5 (d := d_kept_signs) rfl
  have g_kept_signs := He.glo_ok X G (c.t.d.fact 5 (f := .glo "kept_signs") rfl)
  obtain ⟨fd__law_cell_at, F__law_cell_at⟩ := c.t.d.def_ 6 (d := d__law_cell_at) rfl
  have g__law_cell_at := He.glo_ok X G (c.t.d.fact 6 (f := .glo "_law_cell_at") rfl)
  obtain ⟨fd__law_whole, F__law_whole⟩ := c.t.d.def_ 7 (d := d__law_whole) rfl
  have g__law_whole := He.glo_ok X G (c.t.d.fact 7 (f := .glo "_law_whole") rfl)
  obtain ⟨fd__law_others, F__law_others⟩ := c.t.d.def_ 8 (d := d__law_others) rfl
  have g__law_others := He.glo_ok X G (c.t.d.fact 8 (f := .glo "_law_others") rfl)
  obtain ⟨fd__law_told, F__law_told⟩ := c.t.d.def_ 9 (d := d__law_told) rfl
  have g__law_told := He.glo_ok X G (c.t.d.fact 9 (f := .glo "_law_told") rfl)
  obtain ⟨fd__law_due, F__law_due⟩ := c.t.d.def_ 10 (d := d__law_due) rfl
  have g__law_due := He.glo_ok X G (c.t.d.fact 10 (f := .glo "_law_due") rfl)
  obtain ⟨fd_law, F_law⟩ := c.t.d.def_ 11 (d := d_law) rfl
  have g_law := He.glo_ok X G (c.t.d.fact 11 (f := .glo "law") rfl)
  have e := hfa.symm.trans g_law
  cases e
  have b := FunD.bindsA (ps := ["_law_script"]) F_law fun _ _ _ _ _ _ us hl => match us, hl with | [_], _ => rfl
  refine ⟨fd_law, fun s v => b s [v] rfl, fun base _ _ => ?_⟩
  have C_packed := n_packed (P := P) (w := w) (base := base) (W := ⟨[], He.ga K⟩) F_packed g_packed hM
  have C_ones_in := n_ones_in (P := P) (w := w) (base := base) (W := ⟨[], He.ga K⟩) F_ones_in g_ones_in hM
  have C_levels_for := n_levels_for (P := P) (w := w) (base := base) (W := ⟨[], He.ga K⟩) F_levels_for g_levels_for hM
  have C__law_cell_at := n__law_cell_at (P := P) (w := w) (base := base) (W := ⟨[], He.ga K⟩) F__law_cell_at g__law_cell_at hM
  have C__law_whole := n__law_whole (P := P) (w := w) (base := base) (W := ⟨[], He.ga K⟩) F__law_whole g__law_whole hM
  have C__law_others := n__law_others (P := P) (w := w) (base := base) (W := ⟨[], He.ga K⟩) F__law_others g__law_others hM
  have C__law_due := n__law_due (P := P) (w := w) (base := base) (W := ⟨[], He.ga K⟩) F__law_due g__law_due hM
  have C_ones_table := n_ones_table (P := P) (w := w) (base := base) (W := ⟨[], He.ga K⟩) F_ones_table g_ones_table hM C_ones_in
  have C_kept_row := n_kept_row (P := P) (w := w) (base := base) (W := ⟨[], He.ga K⟩) F_kept_row g_kept_row hM C_packed C_ones_table
  have C_kept_signs := n_kept_signs (P := P) (w := w) (base := base) (W := ⟨[], He.ga K⟩) F_kept_signs g_kept_signs hM C_levels_for C_kept_row
  have C__law_told := n__law_told (P := P) (w := w) (base := base) (W := ⟨[], He.ga K⟩) F__law_told g__law_told hM C_kept_signs C__law_others C__law_whole
  exact n_law F_law g_law hM C__law_cell_at C__law_told C__law_due
end LW
open PySem PySem.W PySem.Calls PyProof.Rows
theorem PySem.Challenge.cw_thinwood_k61_signs_refused_holds : PySem.Challenge.rw_thinwood_k61_signs_refused.Holds := by
  w_on; o_law
  refine HandSHeadRun.head_any (r := OpenLaw.row PySem.Challenge.rw_thinwood_k61_signs_refused) (q := view (OpenLaw.row PySem.Challenge.rw_thinwood_k61_signs_refused).prog [29]) (H := LW.hk) (ob := LW.ob) (M := 4000) (loose := LW.loose) (d := HandSHeadRun.topDef (OpenLaw.row PySem.Challenge.rw_thinwood_k61_signs_refused).prog 29) (kwd := []) LW.ob_eq
    (by kernel_rfl) (fun s => by kernel_rfl) LW.run (by kernel_rfl) (by kernel_rfl) (by kernel_rfl) (by rfl) (by first | assumption | decide +kernel) (by decide +kernel) ⟨rfl, rfl, rfl, rfl, rfl, by decide +kernel⟩ ?hw ?hc
  case hw => w_witness2
  case hc =>
    refine DL.walk_ofW (l := PySem.Challenge.rw_thinwood_k61_signs_refused) (n := 63) (k := 6) (x := "_law_script") rfl (by decide) (by kernel_rfl) ⟨rfl, by decide, by decide⟩ ?F
    intro w mg fa h Y G hmg0
    obtain ⟨K, KX, c⟩ := Y
    have hmg : mg ("law" : PySem.Str) = some (.ref fa) := by
      have e : (HandSHeadRun.topDef (OpenLaw.row PySem.Challenge.rw_thinwood_k61_signs_refused).prog 29).name = ("law" : PySem.Str) := by kernel_rfl
      rw [← e]
      exact hmg0
    obtain ⟨fd, hb, hF⟩ := LW.facts (P := (PySem.Challenge.rw_thinwood_k61_signs_refused).prog) (w := w) KX G hmg c
    have hn : DL.noLst K = true := by
      have q := c.more
      unfold LW.ex DL.exB at q
      simp only [Bool.and_eq_true] at q
      exact q.1.1.1
    exact ⟨K, fd, _, KX, hb, fun H a ns hl hO hS => DL.lift_law rfl hn (fun ns c Q E hq => ⟨ns, rfl, hq⟩) hO hS, hF⟩
