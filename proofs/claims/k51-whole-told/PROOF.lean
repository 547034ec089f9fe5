import PyProof.Rows.All
import Wide.All
import OpenK.AllK
import Wide.FinOn
import HandS.ForExc
import HandS.Comp
import HandS.Wide
import HandS.WideBits
import HandS.Zip
import HandS.Rev
import HandS.RevRange
import HandS.Conv
import HandS.Style
import HandS.TupAny
import HandS.Iter
import HandS.Flt
import HandS.IsInst
import HandS.Defaults
import HandS.CallSlots
import HandS.Head0
import HandS.Head1
import HandS.Head2
import HandS.HeadEnd
import HandS.HeadHook2
import HandS.ExcInit
import HandS.Words
import PySem.Challenge.RW_stoodthen_k51_whole_told_at_any_size
import KE.KIndexOf
import KE.KRevSl
import KE.DatumOrd
import KE.GoesZip
import KE.GoesEnum
import KE.GoesNew
import HandS.ExcField
import HandS.TryOnly
set_option Elab.async false
set_option linter.all false
set_option maxRecDepth 100000
set_option maxHeartbeats 4000000
set_option autoImplicit false
namespace Sd
open PySem PySem.Spec L2

/-- what a value is, as plain data -/
inductive D where
  | non | bl (b : Bool) | int (i : Int) | str (s : Str)
  | tup (ds : List D) | lst (ds : List D) | ins (C : Addr) (ks : List Str) (ds : List D) | tpf (ds : List D) | arg (K : PySem.W.Frag) (ns : List Int)
abbrev dInts (ns : List Int) : List D := ns.map D.int

def Ex (H H' : Hp) : Prop := ∀ a o, H a = some o → H' a = some o
theorem Ex.refl (H : Hp) : Ex H H := fun _ _ h => h
theorem Ex.trans {H H1 H2 : Hp} (a : Ex H H1) (b : Ex H1 H2) : Ex H H2 := fun x o h => b x o (a x o h)
theorem Ex.new {H : Hp} {p : Addr} {o : HO} (h : H p = none) : Ex H (upd H p o) := fun a u e => by
  rw [upd_ne (ne_of_none e h)]; exact e
theorem Ex.free {H H' : Hp} (e : Ex H H') {p : Addr} (h : H' p = none) : H p = none := by
  cases h1 : H p with
  | none => rfl
  | some o => rw [e p o h1] at h; cases h
theorem Ex.rd {H H' : Hp} {a : Addr} {u : HO} (e : Ex H H') (h : Rd H a u) : Rd H' a u := by
  rcases h with h | ⟨o, h⟩
  · exact .inl (e a _ h)
  · exact .inr ⟨o, e a _ h⟩
theorem Ex.upd2 {M H : Hp} (e : Ex M H) (p : Addr) (o : HO) (hp : M p = none) : Ex (upd M p o) (upd H p o) := fun a u h => by
  by_cases hb : a = p
  · subst hb; rw [upd_same] at h ⊢; exact h
  · rw [upd_ne hb] at h ⊢; exact e a u h

mutual
def At (M : Hp) : D → V → Prop
  | .non, v => v = .non
  | .bl b, v => v = .bl b
  | .int i, v => v = .int i
  | .str s, v => v = .str s
  | .tup ds, v => ∃ a xs, v = .ref a ∧ Rd M a (.tup xs) ∧ AtL M ds xs
  | .lst ds, v => ∃ a xs, v = .ref a ∧ M a = some (.lst xs) ∧ AtL M ds xs
  | .ins C ks ds, v => ∃ a dx xs, v = .ref a ∧ M a = some (.ins C dx (ks.zip xs)) ∧ ks.length = xs.length ∧ AtL M ds xs
  | .tpf ds, v => ∃ a ob xs, v = .ref a ∧ M a = some (.frz ob (.tup xs)) ∧ ob.dict = none ∧ AtL M ds xs
  | .arg K ns, v => ∃ a, v = .ref a ∧ SqL K M a (ns.map V.int)
def AtL (M : Hp) : List D → List V → Prop
  | [], xs => xs = []
  | d :: ds, xs => ∃ x r, xs = x :: r ∧ At M d x ∧ AtL M ds r
end
mutual
theorem At.up {M M' : Hp} (e : Ex M M') : ∀ {d : D} {v : V}, At M d v → At M' d v
  | .non, _, h => h
  | .bl _, _, h => h
  | .int _, _, h => h
  | .str _, _, h => h
  | .tup _, _, ⟨a, xs, ev, h, r⟩ => ⟨a, xs, ev, e.rd h, AtL.up e r⟩
  | .lst _, _, ⟨a, xs, ev, h, r⟩ => ⟨a, xs, ev, e _ _ h, AtL.up e r⟩
  | .ins _ _ _, _, ⟨a, dx, xs, ev, h, l, r⟩ => ⟨a, dx, xs, ev, e _ _ h, l, AtL.up e r⟩
  | .tpf _, _, ⟨a, ob, xs, ev, h, l, r⟩ => ⟨a, ob, xs, ev, e _ _ h, l, AtL.up e r⟩
  | .arg _ _, _, ⟨a, ev, h⟩ => ⟨a, ev, h.imp e.rd id⟩
theorem AtL.up {M M' : Hp} (e : Ex M M') : ∀ {ds : List D} {xs : List V}, AtL M ds xs → AtL M' ds xs
  | [], _, h => h
  | _ :: _, _, ⟨x, r, ev, h, t⟩ => ⟨x, r, ev, At.up e h, AtL.up e t⟩
end
section
variable {M : Hp} {ds es : List D} {xs ys : List V} {d : D} {v : V}
theorem AtL.nil : AtL M [] [] := rfl
theorem AtL.cons (h : At M d v) (t : AtL M ds xs) : AtL M (d :: ds) (v :: xs) := ⟨v, xs, rfl, h, t⟩
theorem AtL.len : ∀ {ds : List D} {xs : List V}, AtL M ds xs → ds.length = xs.length
  | [], _, h => by cases h; rfl
  | _ :: _, _, ⟨_, _, ev, _, t⟩ => by subst ev; simp only [List.length_cons]; rw [AtL.len t]
theorem AtL.get : ∀ {ds : List D} {xs : List V} {i : Nat} {d : D}, AtL M ds xs → ds[i]? = some d → ∃ x, xs[i]? = some x ∧ At M d x
  | [], _, _, _, _, h => by simp at h
  | _ :: _, _, 0, _, ⟨x, r, ev, h, t⟩, e => by subst ev; simp at e; subst e; exact ⟨x, rfl, h⟩
  | _ :: _, _, i + 1, d, ⟨x, r, ev, h, t⟩, e => by
    subst ev
    obtain ⟨y, h1, h2⟩ := AtL.get (i := i) (d := d) t (by simpa using e)
    exact ⟨y, by simpa using h1, h2⟩
theorem AtL.gets : ∀ {ds : List D} {xs : List V} {i : Nat} {x : V}, AtL M ds xs → xs[i]? = some x → ∃ d, ds[i]? = some d ∧ At M d x := fun {ds xs i x} h e => by
  have hl := h.len
  have hi : i < xs.length := (List.getElem?_eq_some_iff.mp e).1
  have hd : ds[i]? = some (ds[i]'(by omega)) := List.getElem?_eq_getElem (by omega)
  obtain ⟨y, h1, h2⟩ := h.get hd
  rw [e] at h1
  cases h1
  exact ⟨_, hd, h2⟩
theorem AtL.of : ∀ {ds : List D} {xs : List V}, ds.length = xs.length → (∀ (i : Nat) d x, ds[i]? = some d → xs[i]? = some x → At M d x) → AtL M ds xs
  | [], [], _, _ => rfl
  | d :: ds, x :: xs, hl, h => ⟨x, xs, rfl, h 0 d x rfl rfl, AtL.of (by simpa using hl) fun i d' x' h1 h2 => h (i + 1) d' x' (by simpa using h1) (by simpa using h2)⟩
  | [], _ :: _, hl, _ => by simp at hl
  | _ :: _, [], hl, _ => by simp at hl
theorem AtL.all (h : AtL M ds xs) {i : Nat} {d : D} {x : V} (h1 : ds[i]? = some d) (h2 : xs[i]? = some x) : At M d x := by
  obtain ⟨y, e, r⟩ := h.get h1
  rw [h2] at e; cases e; exact r
theorem AtL.append : ∀ {ds es : List D} {xs ys : List V}, AtL M ds xs → AtL M es ys → AtL M (ds ++ es) (xs ++ ys)
  | [], _, _, _, h, k => by cases h; exact k
  | _ :: _, _, _, _, ⟨x, r, ev, h, t⟩, k => by subst ev; exact ⟨x, _, rfl, h, AtL.append t k⟩
theorem AtL.unappend : ∀ {ds es : List D} {zs : List V}, AtL M (ds ++ es) zs → ∃ xs ys, zs = xs ++ ys ∧ AtL M ds xs ∧ AtL M es ys
  | [], _, zs, h => ⟨[], zs, rfl, rfl, h⟩
  | _ :: _, _, _, ⟨x, r, ev, h, t⟩ => by
    obtain ⟨xs, ys, e, h1, h2⟩ := AtL.unappend t
    subst ev; subst e
    exact ⟨x :: xs, ys, rfl, ⟨x, xs, rfl, h, h1⟩, h2⟩
theorem AtL.set (h : AtL M ds xs) (i : Nat) (hd : At M d v) : AtL M (ds.set i d) (xs.set i v) := by
  have hl := h.len
  refine AtL.of (by simpa using hl) fun j d' x' h1 h2 => ?_
  by_cases e : j = i
  · subst e
    by_cases hlt : j < ds.length
    · rw [List.getElem?_set_self hlt] at h1
      rw [List.getElem?_set_self (by omega)] at h2
      cases h1; cases h2; exact hd
    · rw [List.getElem?_eq_none (by simpa using hlt)] at h1; cases h1
  · rw [List.getElem?_set_ne (Ne.symm e)] at h1 h2
    exact h.all h1 h2
theorem AtL.reverse : ∀ {ds : List D} {xs : List V}, AtL M ds xs → AtL M ds.reverse xs.reverse
  | [], _, h => by cases h; rfl
  | _ :: _, _, ⟨x, r, ev, h, t⟩ => by
    subst ev
    rw [List.reverse_cons, List.reverse_cons]
    exact AtL.append (AtL.reverse t) ⟨x, [], rfl, h, rfl⟩
theorem AtL.take : ∀ {ds : List D} {xs : List V} (n : Nat), AtL M ds xs → AtL M (ds.take n) (xs.take n)
  | _, _, 0, _ => by simp only [List.take_zero]; rfl
  | [], _, _ + 1, h => by cases h; rfl
  | _ :: _, _, n + 1, ⟨x, r, ev, h, t⟩ => by subst ev; exact ⟨x, r.take n, rfl, h, AtL.take n t⟩
theorem AtL.drop : ∀ {ds : List D} {xs : List V} (n : Nat), AtL M ds xs → AtL M (ds.drop n) (xs.drop n)
  | _, _, 0, h => h
  | [], _, _ + 1, h => by cases h; rfl
  | _ :: _, _, n + 1, ⟨x, r, ev, h, t⟩ => by subst ev; exact AtL.drop n t
theorem AtL.ints : ∀ {ns : List Int} {xs : List V}, AtL M (dInts ns) xs → xs = ns.map V.int
  | [], _, h => h
  | _ :: _, _, ⟨x, r, ev, h, t⟩ => by
    have hx : x = V.int _ := h
    rw [ev, hx, AtL.ints t]; rfl
theorem AtL.mkInts : ∀ (ns : List Int), AtL M (dInts ns) (ns.map V.int)
  | [] => rfl
  | n :: ns => ⟨_, _, rfl, rfl, AtL.mkInts ns⟩
end

/-- a slot of a def: not told, data, a list or an instance of the def's own that may change, the one handed in that may change -/
inductive Sl where
  | any | val (d : D) | own (d : D) | box (d : D)
/-- a list, an instance that may change, at a -/
def MAt (M H : Hp) (a : Addr) : D → Prop
  | .lst ds => ∃ xs, H a = some (.lst xs) ∧ AtL M ds xs
  | .ins C ks ds => ∃ dx xs, H a = some (.ins C dx (ks.zip xs)) ∧ ks.length = xs.length ∧ AtL M ds xs
  | _ => False
def SlOk (B : Hp) (b : Option Addr) (M H : Hp) : Sl → Option (Option V) → Prop
  | .any, _ => True
  | .val d, x => ∃ v, x = some (some v) ∧ At M d v
  | .own d, x => ∃ a, x = some (some (.ref a)) ∧ M a = none ∧ B a = none ∧ MAt M H a d
  | .box d, x => ∃ a, x = some (some (.ref a)) ∧ M a = none ∧ (b = some a ∧ B a ≠ none) ∧ MAt M H a d
structure Core (B M0 : Hp) (b : Option Addr) (M H : Hp) : Prop where
  sub : Ex M H
  old : Ex M0 M
  eq : ∀ a, B a ≠ none → M a = M0 a
  keep : ∀ a o, B a = some o → b ≠ some a → H a = some o
  there : ∀ a, B a ≠ none → H a ≠ none
def Up (P : Hp → Prop) : Prop := ∀ M M', Ex M M' → P M → P M'
structure StV (B M0 : Hp) (b : Option Addr) (ρ : List Sl) (P : Hp → Prop) (σ : St) (H : Hp) : Prop where
  ex : ∃ M, Core B M0 b M H ∧ P M ∧ ∀ (i : Nat) (s : Sl), ρ[i]? = some s → SlOk B b M H s σ[i]?
  up : Up P
  len : ρ.length = σ.length
  apart : ∀ (i j : Nat) (d e : D), i ≠ j → ρ[i]? = some (.own d) → ρ[j]? = some (.own e) → σ[i]? ≠ σ[j]?
  one : ∀ (i j : Nat) (d e : D), ρ[i]? = some (.box d) → ρ[j]? = some (.box e) → i = j
theorem MAt.up {M M' H : Hp} {a : Addr} (e : Ex M M') : ∀ {d : D}, MAt M H a d → MAt M' H a d
  | .lst _, ⟨xs, h, r⟩ => ⟨xs, h, r.up e⟩
  | .ins _ _ _, ⟨dx, xs, h, l, r⟩ => ⟨dx, xs, h, l, r.up e⟩
  | .non, h => h.elim
  | .bl _, h => h.elim
  | .int _, h => h.elim
  | .str _, h => h.elim
  | .tup _, h => h.elim
  | .tpf _, h => h.elim
  | .arg _ _, h => h.elim
theorem MAt.there {M H : Hp} {a : Addr} : ∀ {d : D}, MAt M H a d → ∃ o, H a = some o
  | .lst _, ⟨xs, h, r⟩ => ⟨_, h⟩
  | .ins _ _ _, ⟨dx, xs, h, l, r⟩ => ⟨_, h⟩
  | .non, h => h.elim
  | .bl _, h => h.elim
  | .int _, h => h.elim
  | .str _, h => h.elim
  | .tup _, h => h.elim
  | .tpf _, h => h.elim
  | .arg _ _, h => h.elim
theorem MAt.on {M H H' : Hp} {a : Addr} (e : H' a = H a) : ∀ {d : D}, MAt M H a d → MAt M H' a d
  | .lst _, ⟨xs, h, r⟩ => ⟨xs, e.trans h, r⟩
  | .ins _ _ _, ⟨dx, xs, h, l, r⟩ => ⟨dx, xs, e.trans h, l, r⟩
  | .non, h => h.elim
  | .bl _, h => h.elim
  | .int _, h => h.elim
  | .str _, h => h.elim
  | .tup _, h => h.elim
  | .tpf _, h => h.elim
  | .arg _ _, h => h.elim
section
variable {B M0 : Hp} {b : Option Addr} {ρ ρ' : List Sl} {P P' G : Hp → Prop} {σ : St} {H : Hp} {d : D} {v : V} {p : Addr} {o : HO}
/-- what is pending may be weakened, by what the core is -/
theorem StV.imp (S : StV B M0 b ρ P σ H) (up : Up P') (h : ∀ M, Ex M H → P M → P' M) : StV B M0 b ρ P' σ H :=
  ⟨let ⟨M, c, p, s⟩ := S.ex; ⟨M, c, h M c.sub p, s⟩, up, S.len, S.apart, S.one⟩
theorem StV.know (S : StV B M0 b ρ P σ H) : ∃ M, Ex M H ∧ P M := let ⟨M, c, p, _⟩ := S.ex; ⟨M, c.sub, p⟩
/-- a new object that does not change -/
theorem StV.grow (S : StV B M0 b ρ P σ H) (hp : H p = none) (uG : Up G) (hG : ∀ M, Ex M H → P M → G (upd M p o)) : StV B M0 b ρ (fun M => G M ∧ P M) σ (upd H p o) := by
  obtain ⟨M, c, q, s⟩ := S.ex
  have mp : M p = none := c.sub.free hp
  have bp : B p = none := by
    cases h : B p with
    | none => rfl
    | some u => exact absurd hp (c.there p (by rw [h]; exact fun z => by cases z))
  have e1 : Ex M (upd M p o) := Ex.new mp
  refine ⟨⟨upd M p o, ⟨c.sub.upd2 p o mp, c.old.trans e1, fun a ha => ?_, fun a u ha hb => ?_, fun a ha => ?_⟩, ⟨hG M c.sub q, S.up _ _ e1 q⟩, fun i sl hi => ?_⟩, fun A A' e x => ⟨uG _ _ e x.1, S.up _ _ e x.2⟩, S.len, S.apart, S.one⟩
  · have : a ≠ p := fun z => ha (z ▸ bp)
    rw [upd_ne this]; exact c.eq a ha
  · have : a ≠ p := fun z => by rw [z, bp] at ha; cases ha
    rw [upd_ne this]; exact c.keep a u ha hb
  · by_cases z : a = p
    · subst z; rw [upd_same]; exact fun z => by cases z
    · rw [upd_ne z]; exact c.there a ha
  · have k := s i sl hi
    cases sl with
    | any => trivial
    | val d => obtain ⟨v, h1, h2⟩ := k; exact ⟨v, h1, h2.up e1⟩
    | own d =>
      obtain ⟨a, h1, h2, h3, h4⟩ := k
      have na : a ≠ p := fun z => by obtain ⟨u, hu⟩ := h4.there; rw [z, hp] at hu; cases hu
      exact ⟨a, h1, by rw [upd_ne na]; exact h2, h3, (h4.up e1).on (upd_ne na)⟩
    | box d =>
      obtain ⟨a, h1, h2, h3, h4⟩ := k
      have na : a ≠ p := fun z => by obtain ⟨u, hu⟩ := h4.there; rw [z, hp] at hu; cases hu
      exact ⟨a, h1, by rw [upd_ne na]; exact h2, h3, (h4.up e1).on (upd_ne na)⟩
/-- slots may be forgotten -/
def Sub (ρ' ρ : List Sl) : Prop := ρ'.length = ρ.length ∧ ∀ (i : Nat) s, ρ'[i]? = some s → s = .any ∨ ρ[i]? = some s
theorem StV.sub (S : StV B M0 b ρ P σ H) (h : Sub ρ' ρ) : StV B M0 b ρ' P σ H := by
  obtain ⟨M, c, q, s⟩ := S.ex
  refine ⟨⟨M, c, q, fun i sl hi => ?_⟩, S.up, h.1.trans S.len, fun i j d e hij h1 h2 => ?_, fun i j d e h1 h2 => ?_⟩
  · rcases h.2 i sl hi with z | z
    · subst z; trivial
    · exact s i sl z
  · rcases h.2 i _ h1 with z | z
    · cases z
    · rcases h.2 j _ h2 with y | y
      · cases y
      · exact S.apart i j d e hij z y
  · rcases h.2 i _ h1 with z | z
    · cases z
    · rcases h.2 j _ h2 with y | y
      · cases y
      · exact S.one i j d e z y
/-- a value goes to a slot -/
theorem set_at {α : Type} {l : List α} {i j : Nat} {x y : α} (h : (l.set i x)[j]? = some y) : (j = i ∧ y = x ∧ i < l.length) ∨ (j ≠ i ∧ l[j]? = some y) := by
  by_cases e : j = i
  · subst e
    by_cases hlt : j < l.length
    · rw [List.getElem?_set_self hlt] at h
      exact .inl ⟨rfl, (Option.some.inj h).symm, hlt⟩
    · rw [List.getElem?_eq_none (by simpa using hlt)] at h; cases h
  · rw [List.getElem?_set_ne (Ne.symm e)] at h
    exact .inr ⟨e, h⟩
theorem StV.setVal (S : StV B M0 b ρ (fun M => At M d v ∧ P M) σ H) (uP : Up P) (i : Nat) : StV B M0 b (ρ.set i (.val d)) P (σ.set i (some v)) H := by
  obtain ⟨M, c, q, s⟩ := S.ex
  have ln := S.len
  refine ⟨⟨M, c, q.2, fun j sl hj => ?_⟩, uP, by rw [List.length_set, List.length_set]; exact ln, fun j k d1 d2 hjk h1 h2 => ?_, fun j k d1 d2 h1 h2 => ?_⟩
  rotate_left 2
  · rcases set_at h1 with ⟨_, z, _⟩ | ⟨_, z⟩
    · cases z
    · rcases set_at h2 with ⟨_, y, _⟩ | ⟨_, y⟩
      · cases y
      · exact S.one j k d1 d2 z y
  · by_cases e : j = i
    · subst e
      by_cases hlt : j < ρ.length
      · rw [List.getElem?_set_self hlt] at hj
        cases hj
        exact ⟨v, by rw [List.getElem?_set_self (by omega)], q.1⟩
      · rw [List.getElem?_eq_none (by simpa using hlt)] at hj; cases hj
    · rw [List.getElem?_set_ne (Ne.symm e)] at hj ⊢
      exact s j sl hj
  · have ne : ∀ (j : Nat) d, (ρ.set i (.val d1))[j]? = some (.own d) → True := fun _ _ _ => trivial
    have hj : j ≠ i := fun z => by
      subst z
      by_cases hlt : j < ρ.length
      · rw [List.getElem?_set_self hlt] at h1; cases h1
      · rw [List.getElem?_eq_none (by simpa using hlt)] at h1; cases h1
    have hk : k ≠ i := fun z => by
      subst z
      by_cases hlt : k < ρ.length
      · rw [List.getElem?_set_self hlt] at h2; cases h2
      · rw [List.getElem?_eq_none (by simpa using hlt)] at h2; cases h2
    rw [List.getElem?_set_ne (Ne.symm hj)] at h1 ⊢
    rw [List.getElem?_set_ne (Ne.symm hk)] at h2 ⊢
    exact S.apart j k d1 d2 hjk h1 h2
/-- a new list of the def's own goes to a slot -/
theorem StV.setOwn {ds : List D} {xs : List V} (S : StV B M0 b ρ (fun M => AtL M ds xs ∧ P M) σ H) (uP : Up P) (hp : H p = none) (i : Nat) :
    StV B M0 b (ρ.set i (.own (.lst ds))) P (σ.set i (some (.ref p))) (upd H p (.lst xs)) := by
  obtain ⟨M, c, q, s⟩ := S.ex
  have ln := S.len
  have mp : M p = none := c.sub.free hp
  have bp : B p = none := by
    cases h : B p with
    | none => rfl
    | some u => exact absurd hp (c.there p (by rw [h]; exact fun z => by cases z))
  have off : ∀ (j : Nat) (d : D), ρ[j]? = some (.own d) → ∀ a, σ[j]? = some (some (.ref a)) → a ≠ p := fun j d hj a ha z => by
    obtain ⟨a', h1, h2, h3, h4⟩ := s j _ hj
    rw [ha] at h1; cases h1
    obtain ⟨u, hu⟩ := h4.there
    rw [z, hp] at hu; cases hu
  refine ⟨⟨M, ⟨fun a u h => ?_, c.old, c.eq, fun a u ha hb => ?_, fun a ha => ?_⟩, q.2, fun j sl hj => ?_⟩, uP, by rw [List.length_set, List.length_set]; exact ln, fun j k d1 d2 hjk h1 h2 => ?_, fun j k d1 d2 h1 h2 => ?_⟩
  rotate_left 5
  · rcases set_at h1 with ⟨_, z, _⟩ | ⟨_, z⟩
    · cases z
    · rcases set_at h2 with ⟨_, y, _⟩ | ⟨_, y⟩
      · cases y
      · exact S.one j k d1 d2 z y
  · have : a ≠ p := fun z => by rw [z, mp] at h; cases h
    rw [upd_ne this]; exact c.sub a u h
  · have : a ≠ p := fun z => by rw [z, bp] at ha; cases ha
    rw [upd_ne this]; exact c.keep a u ha hb
  · by_cases z : a = p
    · subst z; rw [upd_same]; exact fun z => by cases z
    · rw [upd_ne z]; exact c.there a ha
  · by_cases e : j = i
    · subst e
      by_cases hlt : j < ρ.length
      · rw [List.getElem?_set_self hlt] at hj
        cases hj
        exact ⟨p, by rw [List.getElem?_set_self (by omega)], mp, bp, xs, upd_same, q.1⟩
      · rw [List.getElem?_eq_none (by simpa using hlt)] at hj; cases hj
    · rw [List.getElem?_set_ne (Ne.symm e)] at hj ⊢
      have k := s j sl hj
      cases sl with
      | any => trivial
      | val d => exact k
      | own d =>
        obtain ⟨a, h1, h2, h3, h4⟩ := k
        have na : a ≠ p := fun z => by obtain ⟨u, hu⟩ := h4.there; rw [z, hp] at hu; cases hu
        exact ⟨a, h1, h2, h3, h4.on (upd_ne na)⟩
      | box d =>
        obtain ⟨a, h1, h2, h3, h4⟩ := k
        have na : a ≠ p := fun z => by obtain ⟨u, hu⟩ := h4.there; rw [z, hp] at hu; cases hu
        exact ⟨a, h1, h2, h3, h4.on (upd_ne na)⟩
  · by_cases hj : j = i
    · subst hj
      have hk : k ≠ j := Ne.symm hjk
      rw [List.getElem?_set_ne (Ne.symm hk)] at h2 ⊢
      obtain ⟨a, ha, _, _, _⟩ := s k _ h2
      intro z
      have hlt : j < σ.length := by
        by_cases hlt : j < ρ.length
        · omega
        · rw [List.getElem?_eq_none (by simpa using hlt)] at h1; cases h1
      rw [List.getElem?_set_self hlt, ha] at z
      have z2 : p = a := V.ref.inj (Option.some.inj (Option.some.inj z))
      exact off k _ h2 a ha z2.symm
    · rw [List.getElem?_set_ne (Ne.symm hj)] at h1 ⊢
      by_cases hk : k = i
      · subst hk
        obtain ⟨a, ha, _, _, _⟩ := s j _ h1
        intro z
        have hlt : k < σ.length := by
          by_cases hlt : k < ρ.length
          · omega
          · rw [List.getElem?_eq_none (by simpa using hlt)] at h2; cases h2
        rw [List.getElem?_set_self hlt, ha] at z
        have z2 : a = p := V.ref.inj (Option.some.inj (Option.some.inj z))
        exact off j _ h1 a ha z2
      · rw [List.getElem?_set_ne (Ne.symm hk)] at h2 ⊢
        exact S.apart j k d1 d2 hjk h1 h2
end
end Sd

namespace Sd
open PySem PySem.Spec L2

/-! ### the core behind a step -/
section
variable {B M0 : Hp} {b : Option Addr} {ρ ρ' : List Sl} {P P' G : Hp → Prop} {σ : St} {H H' H1 H2 M M' M1 M2 : Hp} {d : D} {v : V} {p : Addr} {o : HO}
theorem Core.refl (h : Ex M H) : Core H M none M H := ⟨h, Ex.refl M, fun _ _ => rfl, fun _ _ e _ => e, fun _ h => h⟩
theorem Core.trans (a : Core B M0 none M H) (c : Core H M none M' H') : Core B M0 none M' H' :=
  ⟨c.sub, a.old.trans c.old, fun x hx => (c.eq x (a.there x hx)).trans (a.eq x hx), fun x o hx _ => c.keep x o (a.keep x o hx (fun z => by cases z)) (fun z => by cases z), fun x hx => c.there x (a.there x hx)⟩
/-- behind a call (or a block) that was entered at H over the core M -/
theorem Core.after (a : Core B M0 b M H) (c : Core H M none M' H') : Core B M0 b M' H' :=
  ⟨c.sub, a.old.trans c.old, fun x hx => (c.eq x (a.there x hx)).trans (a.eq x hx), fun x o hx hb => c.keep x o (a.keep x o hx hb) (fun z => by cases z), fun x hx => c.there x (a.there x hx)⟩
theorem SlOk.after (c : Core H M none M' H') {s : Sl} {x : Option (Option V)} (k : SlOk B b M H s x) : SlOk B b M' H' s x := by
  have old : ∀ a o, H a = some o → H' a = some o := fun a o e => c.keep a o e (fun z => by cases z)
  cases s with
  | any => trivial
  | val d => obtain ⟨v, h1, h2⟩ := k; exact ⟨v, h1, h2.up c.old⟩
  | own d =>
    obtain ⟨a, h1, h2, h3, h4⟩ := k
    obtain ⟨u, hu⟩ := h4.there
    exact ⟨a, h1, (c.eq a (by rw [hu]; exact fun z => by cases z)).trans h2, h3, (h4.up c.old).on ((old a u hu).trans hu.symm)⟩
  | box d =>
    obtain ⟨a, h1, h2, h3, h4⟩ := k
    obtain ⟨u, hu⟩ := h4.there
    exact ⟨a, h1, (c.eq a (by rw [hu]; exact fun z => by cases z)).trans h2, h3, (h4.up c.old).on ((old a u hu).trans hu.symm)⟩
/-- what an open state is -/
structure Opn (B M0 : Hp) (b : Option Addr) (ρ : List Sl) (P : Hp → Prop) (σ : St) (H M : Hp) : Prop where
  c : Core B M0 b M H
  p : P M
  s : ∀ (i : Nat) (s : Sl), ρ[i]? = some s → SlOk B b M H s σ[i]?
theorem StV.opn (S : StV B M0 b ρ P σ H) : ∃ M, Opn B M0 b ρ P σ H M := let ⟨M, c, p, s⟩ := S.ex; ⟨M, c, p, s⟩
theorem StV.back (S : StV B M0 b ρ P σ H) (O : Opn B M0 b ρ P σ H M) (c : Core H M none M' H') (uG : Up G) (g : G M') : StV B M0 b ρ (fun M => G M ∧ P M) σ H' :=
  ⟨⟨M', O.c.after c, ⟨g, S.up _ _ c.old O.p⟩, fun i s hi => (O.s i s hi).after c⟩, fun A A' e x => ⟨uG _ _ e x.1, S.up _ _ e x.2⟩, S.len, S.apart, S.one⟩
theorem StV.back0 (S : StV B M0 b ρ P σ H) (O : Opn B M0 b ρ P σ H M) (c : Core H M none M' H') : StV B M0 b ρ P σ H' :=
  ⟨⟨M', O.c.after c, S.up _ _ c.old O.p, fun i s hi => (O.s i s hi).after c⟩, S.up, S.len, S.apart, S.one⟩
/-- the slots that a block (a comprehension's) may read -/
def blind : Sl → Sl
  | .val d => .val d
  | _ => .any
theorem blind_get {i : Nat} {s : Sl} (h : (ρ.map blind)[i]? = some s) : s = .any ∨ ∃ d, s = .val d ∧ ρ[i]? = some (.val d) := by
  rw [List.getElem?_map] at h
  cases e : ρ[i]? with
  | none => rw [e] at h; cases h
  | some t =>
    rw [e] at h
    cases t with
    | val d => right; exact ⟨d, (Option.some.inj h).symm, rfl⟩
    | any => left; exact (Option.some.inj h).symm
    | own d => left; exact (Option.some.inj h).symm
    | box d => left; exact (Option.some.inj h).symm
theorem StV.enter (S : StV B M0 b ρ P σ H) (O : Opn B M0 b ρ P σ H M) : StV H M none (ρ.map blind) P σ H := by
  refine ⟨⟨M, Core.refl O.c.sub, O.p, fun i s hi => ?_⟩, S.up, by rw [List.length_map]; exact S.len, fun i j d e hij h1 h2 => ?_, fun i j d e h1 h2 => ?_⟩
  · rcases blind_get hi with rfl | ⟨d, rfl, h⟩
    · trivial
    · exact O.s i _ h
  · rcases blind_get h1 with z | ⟨d, z, _⟩ <;> cases z
  · rcases blind_get h1 with z | ⟨d, z, _⟩ <;> cases z
theorem Up.and (a : Up G) (c : Up P) : Up (fun M => G M ∧ P M) := fun _ _ e x => ⟨a _ _ e x.1, c _ _ e x.2⟩
theorem Up.at (d : D) (v : V) : Up (fun M => At M d v) := fun _ _ e x => x.up e
theorem Up.atL (ds : List D) (vs : List V) : Up (fun M => AtL M ds vs) := fun _ _ e x => x.up e
theorem Up.true : Up (fun _ => True) := fun _ _ _ _ => trivial
end

/-! ### the readings -/
inductive Res where
  | ok (d : D) | ex (k : Int)
inductive Out where
  | nx (ρ : List Sl) | rt (ρ : List Sl) (d : D) | bk (ρ : List Sl) | ct (ρ : List Sl) | ex (ρ : List Sl) (k : Int) | rn (ρ : List Sl) (ds : List D)
def placeO (k : Int) : HO := .xd [(("place" : Str), .int k)]
def tX (W : WX) (CU : Addr) (ρ : List Sl) (r : Res) : TE := fun σ H Q => ∃ B M0 b P, StV B M0 b ρ P σ H ∧ (match r with
  | .ok d => ∀ v H2, StV B M0 b ρ (fun M => At M d v ∧ P M) σ H2 → Q v H2
  | .ex k => ∀ dd H2, StV B M0 b ρ P σ H2 → H2 dd = some (placeO k) → W (.ref CU) (some dd) σ H2)
def tG (ρ ρ' : List Sl) (d : D) : TE := fun σ H Q => ∃ B M0 b P, StV B M0 b ρ P σ H ∧ ∀ v H2, StV B M0 b ρ' (fun M => At M d v ∧ P M) σ H2 → Q v H2
abbrev tD (ρ : List Sl) (d : D) : TE := tG ρ ρ d
def tAG (ρ ρ' : List Sl) (ds : List D) : TA := fun σ H Q => ∃ B M0 b P, StV B M0 b ρ P σ H ∧ ∀ vs H2, StV B M0 b ρ' (fun M => AtL M ds vs ∧ P M) σ H2 → Q vs H2
abbrev tA' (ρ : List Sl) (ds : List D) : TA := tAG ρ ρ ds
def tTG (ρ ρ' : List Sl) (c : Bool) : TT := fun σ H Q => ∃ B M0 b P, StV B M0 b ρ P σ H ∧ ∀ H2, StV B M0 b ρ' P σ H2 → Q c H2
abbrev tT (ρ : List Sl) (c : Bool) : TT := tTG ρ ρ c
def tS (W : WX) (CU : Addr) (ρ : List Sl) (o : Out) : TS := fun D σ H => ∃ B M0 b P, StV B M0 b ρ P σ H ∧ (match o with
  | .nx ρ' => ∀ σ' H', StV B M0 b ρ' P σ' H' → D.nx σ' H'
  | .bk ρ' => ∀ σ' H', StV B M0 b ρ' P σ' H' → D.bk σ' H'
  | .ct ρ' => ∀ σ' H', StV B M0 b ρ' P σ' H' → D.ct σ' H'
  | .rt ρ' d => ∀ v σ' H', StV B M0 b ρ' (fun M => At M d v ∧ P M) σ' H' → D.rt v H'
  | .ex ρ' k => ∀ dd σ' H', StV B M0 b ρ' P σ' H' → H' dd = some (placeO k) → W (.ref CU) (some dd) σ' H'
  | .rn ρ' ds => ∀ p xs σ' H', StV B M0 b ρ' (fun M => AtL M ds xs ∧ P M) σ' H' → H' p = none → D.rt (.ref p) (upd H' p (.lst xs)))
def leave : Out → Bool
  | .nx _ => false
  | _ => true
section
variable {X : Cx} {e : Expr} {t t' : TE} {u u' : TT} {a a' : TA} {s s' : TS} {st : Stmt} {sts : List Stmt} {es : List Expr}
theorem pe_imp (h : PE X e t) (k : ∀ σ H Q, t' σ H Q → t σ H Q) : PE X e t' := ⟨fun pins s σ H Q I q => h.run pins s σ H Q I (k σ H Q q)⟩
theorem pt_imp (h : PT X e u) (k : ∀ σ H Q, u' σ H Q → u σ H Q) : PT X e u' := ⟨fun pins s σ H Q I q => h.run pins s σ H Q I (k σ H Q q)⟩
theorem pw_imp (h : PW X e u) (k : ∀ σ H Q, u' σ H Q → u σ H Q) : PW X e u' := ⟨fun wh pins s σ H Q I q => h.run wh pins s σ H Q I (k σ H Q q)⟩
theorem pa_imp (h : PA X es a) (k : ∀ σ H Q, a' σ H Q → a σ H Q) : PA X es a' := ⟨fun pos pins s σ H Q I q => h.run pos pins s σ H Q I (k σ H Q q)⟩
theorem ps_imp (h : PS X st s) (k : ∀ D σ H, s' D σ H → s D σ H) : PS X st s' := ⟨fun pins s σ H D I q => h.run pins s σ H D I (k D σ H q)⟩
theorem pss_imp (h : PSs X sts s) (k : ∀ D σ H, s' D σ H → s D σ H) : PSs X sts s' := ⟨fun pins s σ H D I q => h.run pins s σ H D I (k D σ H q)⟩
end

/-! ### expressions -/
section
variable {X : Cx} {W : WX} {CU : Addr} {ρ ρ1 ρ2 : List Sl} {d d1 d2 : D} {e e1 e2 : Expr} {pos : Pos} {i : Nat} {c : Bool}
theorem x_up (h : PE X e (tD ρ d)) : PE X e (tX W CU ρ (.ok d)) := pe_imp h fun _ _ _ ⟨B, M0, b, P, S, k⟩ => ⟨B, M0, b, P, S, k⟩
theorem x_dn (h : PE X e (tX W CU ρ (.ok d))) : PE X e (tD ρ d) := pe_imp h fun _ _ _ ⟨B, M0, b, P, S, k⟩ => ⟨B, M0, b, P, S, k⟩
theorem x_is (h : PE X e (tD ρ d1)) (q : d1 = d) : PE X e (tD ρ d) := q ▸ h
theorem StV.slot {B M0 : Hp} {b : Option Addr} {P : Hp → Prop} {σ : St} {H : Hp} (S : StV B M0 b ρ P σ H) (h : ρ[i]? = some (.val d)) : ∃ v, σ[i]? = some (some v) ∧ StV B M0 b ρ (fun M => At M d v ∧ P M) σ H := by
  obtain ⟨M, O⟩ := S.opn
  obtain ⟨v, h1, h2⟩ := O.s i _ h
  exact ⟨v, h1, S.back O (Core.refl O.c.sub) (Up.at d v) h2⟩
theorem x_v (i : Nat) {x : Str} (hρ : ρ[i]? = some (.val d) := by rfl) (hN : X.N[i]? = some x := by rfl) (hv : Vis X.env.scope x := by first | exact Or.inl rfl | exact Or.inr (Or.inl rfl) | exact Or.inr (Or.inr rfl))
    (hd : (x == ("__debug__" : Str)) = false := by decide) (hcd : (x == ("__classdict__" : Str)) = false := by decide) : PE X (.Name x pos) (tD ρ d) :=
  pe_imp (pe_var hN hv hd hcd) fun σ H Q ⟨B, M0, b, P, S, k⟩ => let ⟨v, h1, S1⟩ := S.slot hρ; ⟨v, h1, k v H S1⟩
theorem x_c {w : V} (h : PE X e (tC w)) (hd : ∀ M, At M d w) : PE X e (tD ρ d) := pe_imp h fun σ H Q ⟨B, M0, b, P, S, k⟩ => by
  obtain ⟨M, O⟩ := S.opn
  exact k w H (S.back O (Core.refl O.c.sub) (Up.at d w) (hd M))
theorem x_int {n : Int} {j : Nat} : PE X (.Constant (.int n) j pos) (tD ρ (.int n)) := x_c pe_int fun _ => rfl
theorem x_bl {n : Bool} {j : Nat} : PE X (.Constant (.bool n) j pos) (tD ρ (.bl n)) := x_c pe_bl fun _ => rfl
theorem x_non {j : Nat} : PE X (.Constant .none j pos) (tD ρ .non) := x_c pe_non fun _ => rfl
theorem x_str {n : Str} {j : Nat} : PE X (.Constant (.str n) j pos) (tD ρ (.str n)) := x_c pe_str fun _ => rfl
/-- an operation on two values -/
def Op2 (r : R2) (d1 d2 d : D) : Prop := ∀ B M0 b ρ P σ H x y, StV B M0 b ρ (fun M => At M d2 y ∧ At M d1 x ∧ P M) σ H → Up P → ∀ Q : VK, (∀ v H2, StV B M0 b ρ (fun M => At M d v ∧ P M) σ H2 → Q v H2) → r x y H Q
theorem tD_op {r : R2} (hr : Op2 r d1 d2 d) : ∀ σ H Q, tG ρ ρ2 d σ H Q → tOp r (tG ρ ρ1 d1) (tG ρ1 ρ2 d2) σ H Q := fun σ H Q ⟨B, M0, b, P, S, k⟩ =>
  ⟨B, M0, b, P, S, fun x H1 S1 => ⟨B, M0, b, _, S1, fun y H2 S2 => hr B M0 b ρ2 P σ H2 x y S2 S.up Q k⟩⟩
theorem x_op {op : Operator} {r : R2} (ho : OpR X (binaryOp op) r) (hr : Op2 r d1 d2 d) (h1 : PE X e1 (tG ρ ρ1 d1)) (h2 : PE X e2 (tG ρ1 ρ2 d2)) : PE X (.BinOp e1 op e2 pos) (tG ρ ρ2 d) :=
  pe_imp (pe_op ho h1 h2) (tD_op hr)
theorem x_cmp {op : CmpOp} {r : R2} (ho : OpR X (compareOp op) r) (hr : Op2 r d1 d2 d) (h1 : PE X e1 (tG ρ ρ1 d1)) (h2 : PE X e2 (tG ρ1 ρ2 d2)) (hm : behindInMarks op e2 = false) : PE X (.Compare e1 [op] [e2] pos) (tG ρ ρ2 d) :=
  pe_imp (pe_cmpR ho h1 h2 hm) (tD_op hr)
theorem StV.two {B M0 : Hp} {b : Option Addr} {P : Hp → Prop} {σ : St} {H : Hp} {x y : V} (S : StV B M0 b ρ (fun M => At M d2 y ∧ At M d1 x ∧ P M) σ H) (uP : Up P) : (∃ M, Ex M H ∧ At M d2 y ∧ At M d1 x) ∧ StV B M0 b ρ P σ H :=
  ⟨let ⟨M, e, h1, h2, _⟩ := S.know; ⟨M, e, h1, h2⟩, S.imp uP fun _ _ h => h.2.2⟩
theorem StV.put {B M0 : Hp} {b : Option Addr} {P : Hp → Prop} {σ : St} {H : Hp} {v : V} (S : StV B M0 b ρ P σ H) (h : ∀ M, At M d v) : StV B M0 b ρ (fun M => At M d v ∧ P M) σ H :=
  S.imp ((Up.at d v).and S.up) fun M _ p => ⟨h M, p⟩
theorem op2_I {C : Int → Int → Prop} {g : Int → Int → V} {i j : Int} (hC : C i j) (hd : ∀ M, At M d (g i j)) : Op2 (rI C g) (.int i) (.int j) d := fun B M0 b ρ P σ H x y S uP Q k => by
  obtain ⟨⟨M, _, h2, h1⟩, S'⟩ := S.two uP
  have e1 : x = .int i := h1
  have e2 : y = .int j := h2
  exact ⟨i, j, e1, e2, hC, k _ H (S'.put hd)⟩
theorem op2_I0 {g : Int → Int → V} {i j : Int} (hd : ∀ M, At M d (g i j)) : Op2 (rI0 g) (.int i) (.int j) d := fun B M0 b ρ P σ H x y S uP Q k => by
  obtain ⟨⟨M, _, h2, h1⟩, S'⟩ := S.two uP
  have e1 : x = .int i := h1
  have e2 : y = .int j := h2
  exact ⟨i, j, e1, e2, k _ H (S'.put hd)⟩
end
/-- a bound in bits -/
def Bd (n : Nat) (i : Int) : Prop := i.natAbs < 2 ^ n
theorem Bd.mono {n m : Nat} {i : Int} (h : Bd n i) (l : n ≤ m) : Bd m i := Nat.lt_of_lt_of_le h (Nat.pow_le_pow_right (by decide) l)
theorem Bd.mul {n m : Nat} {i j : Int} (h : Bd n i) (k : Bd m j) : Bd (n + m) (i * j) := wide_lt h k
theorem Bd.add {n m : Nat} {i j : Int} (h : Bd n i) (k : Bd m j) : Bd (n + m + 1) (i + j) := by
  have h1 := h.mono (Nat.le_add_right n m)
  have k1 := k.mono (Nat.le_add_left m n)
  unfold Bd at *
  rw [Nat.pow_succ]
  omega
theorem Bd.sub {n m : Nat} {i j : Int} (h : Bd n i) (k : Bd m j) : Bd (n + m + 1) (i - j) := by
  have h1 := h.mono (Nat.le_add_right n m)
  have k1 := k.mono (Nat.le_add_left m n)
  unfold Bd at *
  rw [Nat.pow_succ]
  omega
theorem Bd.le {n : Nat} {i j : Int} (h : Bd n j) (h0 : 0 ≤ i) (h1 : i ≤ j) : Bd n i := wide_le h0 h1 h
theorem Bd.lit {i : Int} (n : Nat) (h : i.natAbs < 2 ^ n := by decide) : Bd n i := h
theorem Bd.mulW {n m : Nat} {i j : Int} (h : Bd n i) (k : Bd m j) (l : n + m ≤ 900000) : CMulW i j :=
  wide_mul (Nat.lt_of_lt_of_le h (Nat.pow_le_pow_right (by decide) (Nat.le_succ n))) (Nat.lt_of_lt_of_le k (Nat.pow_le_pow_right (by decide) (Nat.le_succ m))) (Nat.succ_pos _) (Nat.succ_pos _) (by omega)
theorem Bd.divW {n : Nat} {i j : Int} (h : 0 < j) (k : Bd n j) (l : n ≤ 8000) : CDivW i j :=
  wide_div h (Nat.lt_of_lt_of_le k (Nat.pow_le_pow_right (by decide) (Nat.le_succ n))) (Nat.succ_pos _) (by omega)
section
variable {X : Cx} {ρ ρ1 ρ2 : List Sl} {d d1 d2 : D} {e e1 e2 : Expr} {pos : Pos} {i j : Int} {n m : Nat}
theorem x_add (h1 : PE X e1 (tG ρ ρ1 (.int i))) (h2 : PE X e2 (tG ρ1 ρ2 (.int j))) : PE X (.BinOp e1 .Add e2 pos) (tG ρ ρ2 (.int (i + j))) := x_op op_add (op2_I0 fun _ => rfl) h1 h2
theorem x_sub (h1 : PE X e1 (tG ρ ρ1 (.int i))) (h2 : PE X e2 (tG ρ1 ρ2 (.int j))) : PE X (.BinOp e1 .Sub e2 pos) (tG ρ ρ2 (.int (i - j))) := x_op op_sub (op2_I0 fun _ => rfl) h1 h2
theorem x_mul (h1 : PE X e1 (tG ρ ρ1 (.int i))) (h2 : PE X e2 (tG ρ1 ρ2 (.int j))) (b1 : Bd n i) (b2 : Bd m j) (l : n + m ≤ 900000) : PE X (.BinOp e1 .Mult e2 pos) (tG ρ ρ2 (.int (i * j))) := x_op op_mulW (op2_I (b1.mulW b2 l) fun _ => rfl) h1 h2
theorem x_div (h1 : PE X e1 (tG ρ ρ1 (.int i))) (h2 : PE X e2 (tG ρ1 ρ2 (.int j))) (h0 : 0 < j) (b2 : Bd m j) (l : m ≤ 8000) : PE X (.BinOp e1 .FloorDiv e2 pos) (tG ρ ρ2 (.int (i / j))) := x_op op_fdivW (op2_I (Bd.divW h0 b2 l) fun _ => rfl) h1 h2
theorem x_mod (h1 : PE X e1 (tG ρ ρ1 (.int i))) (h2 : PE X e2 (tG ρ1 ρ2 (.int j))) (h0 : 0 < j) : PE X (.BinOp e1 .Mod e2 pos) (tG ρ ρ2 (.int (i % j))) := x_op op_mod (op2_I h0 fun _ => rfl) h1 h2
theorem x_neg (h1 : PE X e1 (tD ρ (.int i))) : PE X (.UnaryOp .USub e1 pos) (tD ρ (.int (-i))) := pe_imp (pe_un un_neg h1) fun σ H Q ⟨B, M0, b, P, S, k⟩ => ⟨B, M0, b, P, S, fun x H1 S1 => by
  obtain ⟨M, _, h, _⟩ := S1.know
  have e : x = .int i := h
  exact ⟨i, e, k _ H1 ((S1.imp S.up fun _ _ q => q.2).put fun _ => rfl)⟩⟩
theorem x_pow (h1 : PE X e1 (tG ρ ρ1 (.int i))) (h2 : PE X e2 (tG ρ1 ρ2 (.int j))) (h : CPow i j) : PE X (.BinOp e1 .Pow e2 pos) (tG ρ ρ2 (.int (i ^ j.toNat))) := x_op op_pow (op2_I h fun _ => rfl) h1 h2
theorem x_lt (h1 : PE X e1 (tG ρ ρ1 (.int i))) (h2 : PE X e2 (tG ρ1 ρ2 (.int j))) : PE X (.Compare e1 [.Lt] [e2] pos) (tG ρ ρ2 (.bl (decide (i < j)))) := x_cmp op_lt (op2_I0 fun _ => rfl) h1 h2 (nomark _)
theorem x_le (h1 : PE X e1 (tG ρ ρ1 (.int i))) (h2 : PE X e2 (tG ρ1 ρ2 (.int j))) : PE X (.Compare e1 [.LtE] [e2] pos) (tG ρ ρ2 (.bl (decide (i ≤ j)))) := x_cmp op_le (op2_I0 fun _ => rfl) h1 h2 (nomark _)
theorem x_gt (h1 : PE X e1 (tG ρ ρ1 (.int i))) (h2 : PE X e2 (tG ρ1 ρ2 (.int j))) : PE X (.Compare e1 [.Gt] [e2] pos) (tG ρ ρ2 (.bl (decide (j < i)))) := x_cmp op_gt (op2_I0 fun _ => rfl) h1 h2 (nomark _)
theorem x_ge (h1 : PE X e1 (tG ρ ρ1 (.int i))) (h2 : PE X e2 (tG ρ1 ρ2 (.int j))) : PE X (.Compare e1 [.GtE] [e2] pos) (tG ρ ρ2 (.bl (decide (j ≤ i)))) := x_cmp op_ge (op2_I0 fun _ => rfl) h1 h2 (nomark _)
end
/-- what == is of scalars -/
def sEq : D → D → Option Bool
  | .int i, .int j => some (decide (i = j))
  | .bl i, .bl j => some (decide (i = j))
  | .str i, .str j => some (decide (i = j))
  | .int _, .str _ => some false
  | .str _, .int _ => some false
  | _, _ => none
theorem sEq_of {M : Hp} {d1 d2 : D} {x y : V} {c : Bool} (h : sEq d1 d2 = some c) (h1 : At M d1 x) (h2 : At M d2 y) : scal x y = true ∧ decide (x = y) = c := by
  cases d1 <;> cases d2 <;> simp only [sEq, reduceCtorEq, Option.some.injEq] at h
  all_goals
    (subst h
     simp only [At] at h1 h2
     subst h1; subst h2
     refine ⟨rfl, ?_⟩
     simp)
section
variable {X : Cx} {ρ ρ1 ρ2 : List Sl} {d d1 d2 : D} {e e1 e2 : Expr} {pos : Pos} {i j : Int} {n m : Nat} {c : Bool}
theorem op2_eq (h : sEq d1 d2 = some c) : Op2 rEq d1 d2 (.bl c) := fun B M0 b ρ P σ H x y S uP Q k => by
  obtain ⟨⟨M, _, h2, h1⟩, S'⟩ := S.two uP
  obtain ⟨a1, a2⟩ := sEq_of h h1 h2
  refine ⟨a1, ?_⟩
  rw [a2]
  exact k _ H (S'.put fun _ => rfl)
theorem op2_ne (h : sEq d1 d2 = some c) : Op2 rNe d1 d2 (.bl (!c)) := fun B M0 b ρ P σ H x y S uP Q k => by
  obtain ⟨⟨M, _, h2, h1⟩, S'⟩ := S.two uP
  obtain ⟨a1, a2⟩ := sEq_of h h1 h2
  refine ⟨a1, ?_⟩
  rw [a2]
  exact k _ H (S'.put fun _ => rfl)
theorem x_eq (h1 : PE X e1 (tG ρ ρ1 d1)) (h2 : PE X e2 (tG ρ1 ρ2 d2)) (h : sEq d1 d2 = some c) : PE X (.Compare e1 [.Eq] [e2] pos) (tG ρ ρ2 (.bl c)) := x_cmp op_eq (op2_eq h) h1 h2 (nomark _)
theorem x_ne (h1 : PE X e1 (tG ρ ρ1 d1)) (h2 : PE X e2 (tG ρ1 ρ2 d2)) (h : sEq d1 d2 = some c) : PE X (.Compare e1 [.NotEq] [e2] pos) (tG ρ ρ2 (.bl (!c))) := x_cmp op_ne (op2_ne h) h1 h2 (nomark _)
/-- is None -/
def isNon : D → Bool
  | .non => true
  | _ => false
theorem isNon_of {M : Hp} {d : D} {x : V} (h : At M d x) : decide (x = .non) = isNon d := by
  cases d <;> simp only [At] at h
  · subst h; rfl
  · subst h; rfl
  · subst h; rfl
  · subst h; rfl
  · obtain ⟨a, xs, e, _⟩ := h; subst e; rfl
  · obtain ⟨a, xs, e, _⟩ := h; subst e; rfl
  · obtain ⟨a, dx, xs, e, _⟩ := h; subst e; rfl
  · obtain ⟨a, dx, xs, e, _⟩ := h; subst e; rfl
  · obtain ⟨a, e, _⟩ := h; subst e; rfl
theorem x_isN (h1 : PE X e1 (tD ρ d1)) {k : Nat} {p2 : Pos} : PE X (.Compare e1 [.Is] [.Constant .none k p2] pos) (tD ρ (.bl (isNon d1))) := pe_imp (pe_cmp (pc_isN h1)) fun σ H Q ⟨B, M0, b, P, S, k⟩ => ⟨B, M0, b, P, S, fun x H1 S1 => by
  obtain ⟨M, _, h, _⟩ := S1.know
  show Q (.bl (decide (x = .non))) H1
  rw [isNon_of h]
  exact k _ H1 ((S1.imp S.up fun _ _ q => q.2).put fun _ => rfl)⟩
theorem x_notN (h1 : PE X e1 (tD ρ d1)) {k : Nat} {p2 : Pos} : PE X (.Compare e1 [.IsNot] [.Constant .none k p2] pos) (tD ρ (.bl (!isNon d1))) := pe_imp (pe_cmp (pc_notN h1)) fun σ H Q ⟨B, M0, b, P, S, k⟩ => ⟨B, M0, b, P, S, fun x H1 S1 => by
  obtain ⟨M, _, h, _⟩ := S1.know
  show Q (.bl (!decide (x = .non))) H1
  rw [isNon_of h]
  exact k _ H1 ((S1.imp S.up fun _ _ q => q.2).put fun _ => rfl)⟩
theorem x_isN' (h1 : PE X e1 (tD ρ d1)) {k : Nat} {p2 : Pos} (q : isNon d1 = c) : PE X (.Compare e1 [.Is] [.Constant .none k p2] pos) (tD ρ (.bl c)) := q ▸ x_isN h1
/-- not, and, or as values -/
theorem x_not (h1 : PE X e1 (tD ρ (.bl c))) : PE X (.UnaryOp .Not e1 pos) (tD ρ (.bl (!c))) := pe_imp (pe_not h1) fun σ H Q ⟨B, M0, b, P, S, k⟩ => ⟨B, M0, b, P, S, fun x H1 S1 => by
  obtain ⟨M, _, h, _⟩ := S1.know
  have e : x = .bl c := h
  exact ⟨c, e, k _ H1 ((S1.imp S.up fun _ _ q => q.2).put fun _ => rfl)⟩⟩
theorem x_one {op : BoolOp} (h1 : PE X e1 (tD ρ d)) : PE X (.BoolOp op [e1] pos) (tD ρ d) := pe_one h1
theorem x_andT {rest : List Expr} (h1 : PE X e1 (tD ρ (.bl true))) (h2 : PE X (.BoolOp .And (e2 :: rest) pos) (tD ρ d)) : PE X (.BoolOp .And (e1 :: e2 :: rest) pos) (tD ρ d) := pe_imp (pe_and h1 h2) fun σ H Q ⟨B, M0, b, P, S, k⟩ => ⟨B, M0, b, P, S, fun x H1 S1 => by
  obtain ⟨M, _, h, _⟩ := S1.know
  have e : x = .bl true := h
  refine ⟨true, e, ?_⟩
  rw [if_pos rfl]
  exact ⟨B, M0, b, P, S1.imp S.up fun _ _ q => q.2, k⟩⟩
theorem x_andF {rest : List Expr} {t2 : TE} (h1 : PE X e1 (tD ρ (.bl false))) (h2 : PE X (.BoolOp .And (e2 :: rest) pos) t2) : PE X (.BoolOp .And (e1 :: e2 :: rest) pos) (tD ρ (.bl false)) := pe_imp (pe_and h1 h2) fun σ H Q ⟨B, M0, b, P, S, k⟩ => ⟨B, M0, b, P, S, fun x H1 S1 => by
  obtain ⟨M, _, h, _⟩ := S1.know
  have e : x = .bl false := h
  refine ⟨false, e, ?_⟩
  rw [if_neg (by decide)]
  exact k _ H1 ((S1.imp S.up fun _ _ q => q.2).put fun _ => rfl)⟩
theorem pe_nevr : PE X e (fun _ _ _ => False) := ⟨fun _ _ _ _ _ _ h => h.elim⟩
theorem x_orT {rest : List Expr} {t2 : TE} (h1 : PE X e1 (tD ρ (.bl true))) (h2 : PE X (.BoolOp .Or (e2 :: rest) pos) t2) : PE X (.BoolOp .Or (e1 :: e2 :: rest) pos) (tD ρ (.bl true)) := pe_imp (pe_or h1 h2) fun σ H Q ⟨B, M0, b, P, S, k⟩ => ⟨B, M0, b, P, S, fun x H1 S1 => by
  obtain ⟨M, _, h, _⟩ := S1.know
  have e : x = .bl true := h
  refine ⟨true, e, ?_⟩
  rw [if_pos rfl]
  exact k _ H1 ((S1.imp S.up fun _ _ q => q.2).put fun _ => rfl)⟩
theorem x_orF {rest : List Expr} (h1 : PE X e1 (tD ρ (.bl false))) (h2 : PE X (.BoolOp .Or (e2 :: rest) pos) (tD ρ d)) : PE X (.BoolOp .Or (e1 :: e2 :: rest) pos) (tD ρ d) := pe_imp (pe_or h1 h2) fun σ H Q ⟨B, M0, b, P, S, k⟩ => ⟨B, M0, b, P, S, fun x H1 S1 => by
  obtain ⟨M, _, h, _⟩ := S1.know
  have e : x = .bl false := h
  refine ⟨false, e, ?_⟩
  rw [if_neg (by decide)]
  exact ⟨B, M0, b, P, S1.imp S.up fun _ _ q => q.2, k⟩⟩
/-- by the test -/
theorem x_ifT {c1 : Expr} (h : PT X c1 (tT ρ true)) (h1 : PE X e1 (tD ρ d)) {t2 : TE} (h2 : PE X e2 t2) : PE X (.IfExp c1 e1 e2 pos) (tD ρ d) := pe_imp (pe_ifExp h h1 h2) fun σ H Q ⟨B, M0, b, P, S, k⟩ => ⟨B, M0, b, P, S, fun H1 S1 => iteT ⟨B, M0, b, P, S1, k⟩⟩
theorem x_ifF {c1 : Expr} (h : PT X c1 (tT ρ false)) (h2 : PE X e2 (tD ρ d)) {t1 : TE} (h1 : PE X e1 t1) : PE X (.IfExp c1 e1 e2 pos) (tD ρ d) := pe_imp (pe_ifExp h h1 h2) fun σ H Q ⟨B, M0, b, P, S, k⟩ => ⟨B, M0, b, P, S, fun H1 S1 => iteF ⟨B, M0, b, P, S1, k⟩⟩
theorem x_if {c1 : Expr} (h : PT X c1 (tT ρ c)) (h1 : c = true → PE X e1 (tD ρ d)) (h2 : c = false → PE X e2 (tD ρ d)) : PE X (.IfExp c1 e1 e2 pos) (tD ρ d) := by
  cases c with
  | true => exact x_ifT h (h1 rfl) pe_nevr
  | false => exact x_ifF h (h2 rfl) pe_nevr
end

/-! ### tests -/
section
variable {X : Cx} {ρ ρ1 ρ2 : List Sl} {d d1 d2 : D} {e e1 e2 : Expr} {pos : Pos} {i j : Int} {c c' : Bool}
theorem t_is (h : PT X e (tT ρ c)) (q : c = c') : PT X e (tT ρ c') := q ▸ h
theorem t_cmp {op : CmpOp} {r : R2} (ho : OpR X (compareOp op) r) (hr : Op2 r d1 d2 (.bl c)) (h1 : PE X e1 (tG ρ ρ1 d1)) (h2 : PE X e2 (tG ρ1 ρ2 d2)) (hm : behindInMarks op e2 = false) : PT X (.Compare e1 [op] [e2] pos) (tTG ρ ρ2 c) :=
  pt_imp (pt_cmpR ho h1 h2 hm) fun σ H Q ⟨B, M0, b, P, S, k⟩ => tD_op hr σ H _ ⟨B, M0, b, P, S, fun v H2 S2 => by
    obtain ⟨M, _, h, _⟩ := S2.know
    have e : v = .bl c := h
    exact ⟨c, e, k H2 (S2.imp S.up fun _ _ q => q.2)⟩⟩
theorem t_lt (h1 : PE X e1 (tG ρ ρ1 (.int i))) (h2 : PE X e2 (tG ρ1 ρ2 (.int j))) : PT X (.Compare e1 [.Lt] [e2] pos) (tTG ρ ρ2 (decide (i < j))) := t_cmp op_lt (op2_I0 fun _ => rfl) h1 h2 (nomark _)
theorem t_le (h1 : PE X e1 (tG ρ ρ1 (.int i))) (h2 : PE X e2 (tG ρ1 ρ2 (.int j))) : PT X (.Compare e1 [.LtE] [e2] pos) (tTG ρ ρ2 (decide (i ≤ j))) := t_cmp op_le (op2_I0 fun _ => rfl) h1 h2 (nomark _)
theorem t_gt (h1 : PE X e1 (tG ρ ρ1 (.int i))) (h2 : PE X e2 (tG ρ1 ρ2 (.int j))) : PT X (.Compare e1 [.Gt] [e2] pos) (tTG ρ ρ2 (decide (j < i))) := t_cmp op_gt (op2_I0 fun _ => rfl) h1 h2 (nomark _)
theorem t_ge (h1 : PE X e1 (tG ρ ρ1 (.int i))) (h2 : PE X e2 (tG ρ1 ρ2 (.int j))) : PT X (.Compare e1 [.GtE] [e2] pos) (tTG ρ ρ2 (decide (j ≤ i))) := t_cmp op_ge (op2_I0 fun _ => rfl) h1 h2 (nomark _)
theorem t_eq (h1 : PE X e1 (tG ρ ρ1 d1)) (h2 : PE X e2 (tG ρ1 ρ2 d2)) (h : sEq d1 d2 = some c) : PT X (.Compare e1 [.Eq] [e2] pos) (tTG ρ ρ2 c) := t_cmp op_eq (op2_eq h) h1 h2 (nomark _)
theorem t_ne (h1 : PE X e1 (tG ρ ρ1 d1)) (h2 : PE X e2 (tG ρ1 ρ2 d2)) (h : sEq d1 d2 = some c) : PT X (.Compare e1 [.NotEq] [e2] pos) (tTG ρ ρ2 (!c)) := t_cmp op_ne (op2_ne h) h1 h2 (nomark _)
theorem t_tB {t : TE} (h : PT X e (tB t)) (q : ∀ σ H Q, tD ρ (.bl c) σ H Q → t σ H Q) : PT X e (tT ρ c) := pt_imp h fun σ H Q ⟨B, M0, b, P, S, k⟩ => q σ H _ ⟨B, M0, b, P, S, fun v H2 S2 => by
    obtain ⟨M, _, h, _⟩ := S2.know
    have e : v = .bl c := h
    exact ⟨c, e, k H2 (S2.imp S.up fun _ _ q => q.2)⟩⟩
theorem t_isN (h1 : PE X e1 (tD ρ d1)) {k : Nat} {p2 : Pos} : PT X (.Compare e1 [.Is] [.Constant .none k p2] pos) (tT ρ (isNon d1)) := t_tB (pt_cmp (pc_isN h1)) fun σ H Q ⟨B, M0, b, P, S, k⟩ => ⟨B, M0, b, P, S, fun x H1 S1 => by
  obtain ⟨M, _, h, _⟩ := S1.know
  show Q (.bl (decide (x = .non))) H1
  rw [isNon_of h]
  exact k _ H1 ((S1.imp S.up fun _ _ q => q.2).put fun _ => rfl)⟩
theorem t_notN (h1 : PE X e1 (tD ρ d1)) {k : Nat} {p2 : Pos} : PT X (.Compare e1 [.IsNot] [.Constant .none k p2] pos) (tT ρ (!isNon d1)) := t_tB (pt_cmp (pc_notN h1)) fun σ H Q ⟨B, M0, b, P, S, k⟩ => ⟨B, M0, b, P, S, fun x H1 S1 => by
  obtain ⟨M, _, h, _⟩ := S1.know
  show Q (.bl (!decide (x = .non))) H1
  rw [isNon_of h]
  exact k _ H1 ((S1.imp S.up fun _ _ q => q.2).put fun _ => rfl)⟩
/-- any expression that gives a bool (a name, a call) -/
theorem t_val (h : PE X e (tD ρ (.bl c))) (he : ∀ whole, isTrue e X.env whole = (do let v ← whole; standAt e.pos; holding [v] (truthy v)) := by intro _; rfl) : PT X e (tT ρ c) := t_tB (pt_val h he) fun _ _ _ q => q
theorem t_not (h : PT X e (tT ρ c)) : PT X (.UnaryOp .Not e pos) (tT ρ (!c)) := pt_imp (pt_not h) fun σ H Q ⟨B, M0, b, P, S, k⟩ => ⟨B, M0, b, P, S, fun H2 S2 => k H2 S2⟩
theorem w_and1 (h : PT X e (tT ρ c)) : PW X (.BoolOp .And [e] pos) (tT ρ c) := pw_and1 h
theorem w_or1 (h : PT X e (tT ρ c)) : PW X (.BoolOp .Or [e] pos) (tT ρ c) := pw_or1 h
theorem w_and {rest : List Expr} (h1 : PT X e1 (tT ρ c)) (h2 : c = true → PW X (.BoolOp .And (e2 :: rest) pos) (tT ρ c')) : PW X (.BoolOp .And (e1 :: e2 :: rest) pos) (tT ρ (c && c')) := by
  cases c with
  | true => exact pw_imp (pw_and h1 (h2 rfl)) fun σ H Q ⟨B, M0, b, P, S, k⟩ => ⟨B, M0, b, P, S, fun H1 S1 => iteT ⟨B, M0, b, P, S1, k⟩⟩
  | false => exact pw_imp (pw_and (tB' := fun _ _ _ => False) h1 ⟨fun _ _ _ _ _ _ _ h => h.elim⟩) fun σ H Q ⟨B, M0, b, P, S, k⟩ => ⟨B, M0, b, P, S, fun H1 S1 => iteF (k H1 S1)⟩
theorem w_or {rest : List Expr} (h1 : PT X e1 (tT ρ c)) (h2 : c = false → PW X (.BoolOp .Or (e2 :: rest) pos) (tT ρ c')) : PW X (.BoolOp .Or (e1 :: e2 :: rest) pos) (tT ρ (c || c')) := by
  cases c with
  | false => exact pw_imp (pw_or h1 (h2 rfl)) fun σ H Q ⟨B, M0, b, P, S, k⟩ => ⟨B, M0, b, P, S, fun H1 S1 => iteF ⟨B, M0, b, P, S1, k⟩⟩
  | true => exact pw_imp (pw_or (tB' := fun _ _ _ => False) h1 ⟨fun _ _ _ _ _ _ _ h => h.elim⟩) fun σ H Q ⟨B, M0, b, P, S, k⟩ => ⟨B, M0, b, P, S, fun H1 S1 => iteT (k H1 S1)⟩
theorem t_W (h : PW X e (tT ρ c)) : PT X e (tT ρ c) := h.pt
end

/-! ### arguments, displays -/
section
variable {X : Cx} {ρ ρ1 ρ2 : List Sl} {d : D} {ds : List D} {e : Expr} {es : List Expr} {pos : Pos}
theorem a_nil : PA X [] (tA' ρ []) := pa_imp pa_nil fun σ H Q ⟨B, M0, b, P, S, k⟩ => k [] H (S.imp ((Up.atL [] []).and S.up) fun _ _ p => ⟨rfl, p⟩)
theorem a_cons (h1 : PE X e (tG ρ ρ1 d)) (h2 : PA X es (tAG ρ1 ρ2 ds)) (hs : starEach (e :: es) X.env = (false, eval e X.env) :: starEach es X.env := by rfl) : PA X (e :: es) (tAG ρ ρ2 (d :: ds)) :=
  pa_imp (pa_cons h1 h2 hs) fun σ H Q ⟨B, M0, b, P, S, k⟩ => ⟨B, M0, b, P, S, fun x H1 S1 => ⟨B, M0, b, _, S1, fun vs H2 S2 => k (x :: vs) H2 (S2.imp ((Up.atL _ _).and S.up) fun _ _ q => ⟨AtL.cons q.2.1 q.1, q.2.2⟩)⟩⟩
end
end Sd

namespace Sd
open PySem PySem.Spec L2

/-! ### displays, items, slices -/
section
variable {B M0 : Hp} {b : Option Addr} {ρ : List Sl} {P : Hp → Prop} {σ : St} {H : Hp} {ds es : List D} {vs xs : List V} {p : Addr}
theorem StV.newTup (S : StV B M0 b ρ (fun M => AtL M ds vs ∧ P M) σ H) (uP : Up P) (hp : H p = none) : StV B M0 b ρ (fun M => At M (.tup ds) (.ref p) ∧ P M) σ (upd H p (.tup vs)) :=
  (S.grow (G := fun M => At M (.tup ds) (.ref p)) hp (Up.at _ _) fun M e q => ⟨p, vs, rfl, .inl upd_same, q.1.up (Ex.new (e.free hp))⟩).imp ((Up.at _ _).and uP) fun _ _ q => ⟨q.1, q.2.2⟩
theorem StV.newLst (S : StV B M0 b ρ (fun M => AtL M ds vs ∧ P M) σ H) (uP : Up P) (hp : H p = none) : StV B M0 b ρ (fun M => At M (.lst ds) (.ref p) ∧ P M) σ (upd H p (.lst vs)) :=
  (S.grow (G := fun M => At M (.lst ds) (.ref p)) hp (Up.at _ _) fun M e q => ⟨p, vs, rfl, upd_same, q.1.up (Ex.new (e.free hp))⟩).imp ((Up.at _ _).and uP) fun _ _ q => ⟨q.1, q.2.2⟩
/-- the items that are told are those of one list: by what the core is -/
theorem StV.items (S : StV B M0 b ρ P σ H) {Z : List V → Prop} (h : ∀ M, Ex M H → P M → ∃ xs, Z xs) : ∃ xs, Z xs := let ⟨M, e, p⟩ := S.know; h M e p
end
/-- the items of a sequence -/
def seqD : D → Option (List D)
  | .tup ds => some ds
  | .lst ds => some ds
  | _ => none
theorem at_tup {M : Hp} {ds : List D} {v : V} (h : At M (.tup ds) v) : ∃ a xs, v = .ref a ∧ Rd M a (.tup xs) ∧ AtL M ds xs := h
theorem at_lst {M : Hp} {ds : List D} {v : V} (h : At M (.lst ds) v) : ∃ a xs, v = .ref a ∧ M a = some (.lst xs) ∧ AtL M ds xs := h
/-- a sequence as the layer reads it -/
theorem at_seq {K : PySem.W.Frag} {M H : Hp} {d : D} {ds : List D} {v : V} (hd : seqD d = some ds) (e : Ex M H) (h : At M d v) :
    ∃ a xs, v = .ref a ∧ (SqL K H a xs ∨ SqT K H a xs) ∧ AtL M ds xs := by
  cases d with
  | tup es => cases hd; obtain ⟨a, xs, h1, h2, h3⟩ := h; exact ⟨a, xs, h1, .inr (.inl (e.rd h2)), h3⟩
  | lst es => cases hd; obtain ⟨a, xs, h1, h2, h3⟩ := h; exact ⟨a, xs, h1, .inl (.inl (.inl (e _ _ h2))), h3⟩
  | _ => cases hd
theorem atI_at {M : Hp} {ds : List D} {xs : List V} {i : Int} {d : D} (h : AtL M ds xs) (e : atI ds i = some d) : ∃ v, atI xs i = some v ∧ At M d v := by
  have hl := h.len
  unfold atI at e ⊢
  rw [← hl]
  cases q : ixN ds.length i with
  | none => rw [q] at e; cases e
  | some j =>
    rw [q] at e
    exact h.get e
section
variable {X : Cx} {ρ ρ1 ρ2 : List Sl} {d d1 d2 : D} {ds es : List D} {e e1 e2 : Expr} {ees : List Expr} {pos : Pos} {i j : Int} {c : Bool}
theorem x_tup {k : Nat} (h : PA X ees (tAG ρ ρ1 ds)) (hl : ds.length ≤ 100000) : PE X (.Tuple ees k pos) (tG ρ ρ1 (.tup ds)) := pe_imp (pe_tup h) fun σ H Q ⟨B, M0, b, P, S, k⟩ => ⟨B, M0, b, P, S, fun vs H1 S1 => by
  obtain ⟨M, e, q, _⟩ := S1.know
  refine ⟨?_, fun p hp => k _ _ (S1.newTup S.up hp)⟩
  rw [← q.len]; exact Nat.le_trans hl (by decide)⟩
theorem x_lst {k : Nat} (h : PA X ees (tAG ρ ρ1 ds)) (hl : ds.length ≤ 100000) : PE X (.List ees pos) (tG ρ ρ1 (.lst ds)) := pe_imp (pe_lst h) fun σ H Q ⟨B, M0, b, P, S, k⟩ => ⟨B, M0, b, P, S, fun vs H1 S1 => by
  obtain ⟨M, e, q, _⟩ := S1.know
  refine ⟨?_, fun p hp => k _ _ (S1.newLst S.up hp)⟩
  rw [← q.len]; exact Nat.le_trans hl (by decide)⟩
theorem op2_ix {K : PySem.W.Frag} (hd : seqD d1 = some ds) (hi : atI ds i = some d) : Op2 (rIx K) d1 (.int i) d := fun B M0 b ρ P σ H x y S uP Q k => by
  obtain ⟨M, O⟩ := S.opn
  obtain ⟨h2, h1, h3⟩ := O.p
  have ey : y = .int i := h2
  obtain ⟨a, xs, ex, sq, hx⟩ := at_seq (K := K) hd O.c.sub h1
  obtain ⟨v, hv, av⟩ := atI_at hx hi
  have S' : StV B M0 b ρ (fun M => At M d v ∧ P M) σ H := (S.back O (Core.refl O.c.sub) (Up.at d v) av).imp ((Up.at d v).and uP) fun _ _ q => ⟨q.1, q.2.2.2⟩
  rcases sq with sq | sq
  · exact .inl ⟨a, xs, i, v, ex, ey, sq, hv, k v H S'⟩
  · exact .inr (.inl ⟨a, xs, i, v, ex, ey, sq, hv, k v H S'⟩)
theorem x_ix (h1 : PE X e1 (tG ρ ρ1 d1)) (h2 : PE X e2 (tG ρ1 ρ2 (.int i))) (hd : seqD d1 = some ds) (hi : atI ds i = some d) (hs : PlainIx e2 := by exact fun _ _ => rfl) : PE X (.Subscript e1 e2 pos) (tG ρ ρ2 d) :=
  pe_imp (pe_ix ix_seq h1 h2 hs) (tD_op (op2_ix hd hi))
theorem StV.mut {B M0 : Hp} {b : Option Addr} {P : Hp → Prop} {σ : St} {H : Hp} {n : Nat} (S : StV B M0 b ρ P σ H) (h : ρ[n]? = some (.own (.lst ds)) ∨ ρ[n]? = some (.box (.lst ds))) :
    ∃ a xs, σ[n]? = some (some (.ref a)) ∧ H a = some (.lst xs) ∧ StV B M0 b ρ (fun M => AtL M ds xs ∧ P M) σ H := by
  obtain ⟨M, O⟩ := S.opn
  rcases h with h | h
  · obtain ⟨a, h1, h2, h3, xs, h4, h5⟩ := O.s n _ h
    exact ⟨a, xs, h1, h4, S.back O (Core.refl O.c.sub) (Up.atL ds xs) h5⟩
  · obtain ⟨a, h1, h2, h3, xs, h4, h5⟩ := O.s n _ h
    exact ⟨a, xs, h1, h4, S.back O (Core.refl O.c.sub) (Up.atL ds xs) h5⟩
/-- an item of a list that may change, at slot n -/
theorem x_ixM {n : Nat} {x : Str} {p : Pos} (hρ : ρ[n]? = some (.own (.lst ds)) ∨ ρ[n]? = some (.box (.lst ds))) (h2 : PE X e2 (tD ρ (.int i))) (hi : atI ds i = some d) (hN : X.N[n]? = some x := by rfl)
    (hv : Vis X.env.scope x := by first | exact Or.inl rfl | exact Or.inr (Or.inl rfl) | exact Or.inr (Or.inr rfl))
    (hd : (x == ("__debug__" : Str)) = false := by decide) (hcd : (x == ("__classdict__" : Str)) = false := by decide) (hs : PlainIx e2 := by exact fun _ _ => rfl) : PE X (.Subscript (.Name x p) e2 pos) (tD ρ d) :=
  pe_imp (pe_ix ix_list (pe_var hN hv hd hcd) h2 hs) fun σ H Q ⟨B, M0, b, P, S, k⟩ => by
    obtain ⟨a, xs, ha, _, _⟩ := S.mut hρ
    refine ⟨_, ha, B, M0, b, P, S, fun y H2 S2 => ?_⟩
    obtain ⟨a', ys, ha', hys, S3⟩ := S2.mut hρ
    rw [ha] at ha'
    have ea : a = a' := V.ref.inj (Option.some.inj (Option.some.inj ha'))
    subst ea
    obtain ⟨M, O⟩ := S3.opn
    obtain ⟨p1, p2, p3⟩ := O.p
    have ey : y = .int i := p2
    obtain ⟨v, hv, av⟩ := atI_at p1 hi
    refine ⟨a, ys, i, v, rfl, ey, .inl (.inl hys), hv, k v H2 ?_⟩
    exact (S3.back O (Core.refl O.c.sub) (Up.at d v) av).imp ((Up.at d v).and S.up) fun _ _ q => ⟨q.1, q.2.2.2⟩
def cutD (ds : List D) (lo hi : Option Int) : List D := (ds.drop (HT.sIx ds.length 0 lo)).take (HT.sIx ds.length ds.length hi - HT.sIx ds.length 0 lo)
theorem cut_at {M : Hp} {ds : List D} {xs : List V} (h : AtL M ds xs) (lo hi : Option Int) : AtL M (cutD ds lo hi) (cutV xs lo hi) := by
  unfold cutD cutV
  rw [h.len]
  exact (h.drop _).take _
def tO (ρ : List Sl) (o : Option Int) : TO := fun σ H Q => ∃ B M0 b P, StV B M0 b ρ P σ H ∧ ∀ H2, StV B M0 b ρ P σ H2 → Q o H2
theorem o_no : PO X none (tO ρ none) := ⟨fun pins s σ H Q I h => po_none.run pins s σ H Q I (let ⟨B, M0, b, P, S, k⟩ := h; k H S)⟩
theorem o_at (h : PE X e (tD ρ (.int i))) : PO X (some e) (tO ρ (some i)) := ⟨fun pins s σ H Q I hq => (po_some h).run pins s σ H Q I (let ⟨B, M0, b, P, S, k⟩ := hq; ⟨B, M0, b, P, S, fun x H1 S1 => by
  obtain ⟨M, _, h, _⟩ := S1.know
  have e : x = .int i := h
  exact ⟨i, e, k H1 (S1.imp S.up fun _ _ q => q.2)⟩⟩)⟩
/-- t[lo:hi] of a tuple -/
theorem x_slT {lo hi : Option Expr} {l h : Option Int} {p2 : Pos} (h1 : PE X e1 (tD ρ (.tup ds))) (hl : PO X lo (tO ρ l)) (hh : PO X hi (tO ρ h)) : PE X (.Subscript e1 (.Slice lo hi none p2) pos) (tD ρ (.tup (cutD ds l h))) :=
  pe_imp (pe_slice sl_tupA h1 hl hh) fun σ H Q ⟨B, M0, b, P, S, k⟩ => ⟨B, M0, b, P, S, fun x H1 S1 => ⟨B, M0, b, _, S1, fun H2 S2 => ⟨B, M0, b, _, S2, fun H3 S3 => by
    obtain ⟨M, O⟩ := S3.opn
    obtain ⟨⟨a, xs, ex, hx, ax⟩, pp⟩ := O.p
    refine ⟨a, xs, ex, .inl (O.c.sub.rd hx), fun hw => ?_, fun hw p hp => ?_⟩
    · refine k _ H3 ((S3.imp S1.up fun _ _ q => q).imp ((Up.at _ _).and S.up) fun M' e' q => ⟨?_, q.2⟩)
      have e2 : cutD ds l h = ds := by
        unfold cutD
        have hl := ax.len
        rw [hl, hw.1, hw.2, List.drop_zero, Nat.sub_zero, ← hl, List.take_length]
      rw [e2]
      rw [← ex]; exact q.1
    · have S4 := S3.back O (Core.refl O.c.sub) (G := fun M => AtL M (cutD ds l h) (cutV xs l h)) (Up.atL _ _) (cut_at ax l h)
      exact k _ _ ((StV.newTup S4 S1.up hp).imp ((Up.at _ _).and S.up) fun _ _ q => ⟨q.1, q.2.2⟩)⟩⟩⟩
/-- t + u of tuples -/
theorem op2_catT {K : PySem.W.Frag} (hl : ds.length + es.length ≤ 100000) : Op2 (rCatA K) (.tup ds) (.tup es) (.tup (ds ++ es)) := fun B M0 b ρ P σ H x y S uP Q k => by
  obtain ⟨M, O⟩ := S.opn
  obtain ⟨⟨a2, ys, ey, hy, ay⟩, ⟨a1, xs, ex, hx, ax⟩, _⟩ := O.p
  refine ⟨a1, a2, xs, ys, ex, ey, .inl (O.c.sub.rd hx), .inl (O.c.sub.rd hy), by rw [← ax.len, ← ay.len]; exact Nat.le_trans hl (by decide), fun h0 => ?_, fun _ h0 => ?_, fun _ _ p hp => ?_⟩
  · subst h0
    have e : ds = [] := List.length_eq_zero_iff.mp ax.len
    subst e
    refine k _ H (S.imp ((Up.at _ _).and uP) fun M' _ q => ⟨?_, q.2.2⟩)
    rw [← ey]; exact q.1
  · subst h0
    have e : es = [] := List.length_eq_zero_iff.mp ay.len
    subst e
    refine k _ H (S.imp ((Up.at _ _).and uP) fun M' _ q => ⟨?_, q.2.2⟩)
    rw [← ex, List.append_nil]; exact q.2.1
  · have S4 := S.back O (Core.refl O.c.sub) (G := fun M => AtL M (ds ++ es) (xs ++ ys)) (Up.atL _ _) (ax.append ay)
    exact k _ _ ((StV.newTup S4 S.up hp).imp ((Up.at _ _).and uP) fun _ _ q => ⟨q.1, q.2.2.2⟩)
theorem x_catT (h1 : PE X e1 (tG ρ ρ1 (.tup ds))) (h2 : PE X e2 (tG ρ1 ρ2 (.tup es))) (hl : ds.length + es.length ≤ 100000) : PE X (.BinOp e1 .Add e2 pos) (tG ρ ρ2 (.tup (ds ++ es))) := x_op op_catA (op2_catT hl) h1 h2
/-- xs + ys of lists -/
theorem op2_catL (hl : ds.length + es.length ≤ 100000) : Op2 rCat (.lst ds) (.lst es) (.lst (ds ++ es)) := fun B M0 b ρ P σ H x y S uP Q k => by
  obtain ⟨M, O⟩ := S.opn
  obtain ⟨⟨a2, ys, ey, hy, ay⟩, ⟨a1, xs, ex, hx, ax⟩, _⟩ := O.p
  refine ⟨a1, a2, xs, ys, ex, ey, O.c.sub _ _ hx, O.c.sub _ _ hy, by rw [← ax.len, ← ay.len]; exact Nat.le_trans hl (by decide), fun p hp => ?_⟩
  have S4 := S.back O (Core.refl O.c.sub) (G := fun M => AtL M (ds ++ es) (xs ++ ys)) (Up.atL _ _) (ax.append ay)
  exact k _ _ ((StV.newLst S4 S.up hp).imp ((Up.at _ _).and uP) fun _ _ q => ⟨q.1, q.2.2.2⟩)
theorem x_catL (h1 : PE X e1 (tD ρ (.lst ds))) (h2 : PE X e2 (tD ρ (.lst es))) (hl : ds.length + es.length ≤ 100000) : PE X (.BinOp e1 .Add e2 pos) (tD ρ (.lst (ds ++ es))) := x_op op_cat (op2_catL hl) h1 h2
end

/-! ### attributes -/
def fieldIx (f : Str) : List Str → Option Nat
  | [] => none
  | k :: ks => if f = k then some 0 else (fieldIx f ks).map (· + 1)
theorem lookup_ix {f : Str} {x : V} : ∀ {ks : List Str} {xs : List V} {j : Nat}, fieldIx f ks = some j → xs[j]? = some x → (ks.zip xs).lookup f = some x
  | [], _, _, h, _ => by cases h
  | k :: ks, [], _, _, h => by simp at h
  | k :: ks, y :: ys, j, h, hx => by
    unfold fieldIx at h
    by_cases e : f = k
    · rw [if_pos e] at h
      cases h
      subst e
      have : y = x := by simpa using hx
      subst this
      simp [List.lookup]
    · rw [if_neg e] at h
      have eb : (f == k) = false := by simpa using e
      cases q : fieldIx f ks with
      | none => rw [q] at h; cases h
      | some i =>
        rw [q] at h
        cases h
        rw [List.zip_cons_cons]
        simp only [List.lookup, eb]
        exact lookup_ix q (by simpa using hx)
section
variable {X : Cx} {ρ : List Sl} {d : D} {ds : List D} {ks : List Str} {C : Addr} {e : Expr} {f : Str} {pos : Pos} {j : Nat}
theorem x_fld (h : PE X e (tD ρ (.ins C ks ds))) (cl : Cls X.K C) (na : NoAttr X.K C f) (hf : fieldIx f ks = some j) (hd : ds[j]? = some d) (hb : attributeBase e f X.env (eval e X.env) = eval e X.env := by rfl) : PE X (.Attribute e f pos) (tD ρ d) :=
  pe_imp (pe_fld h hb) fun σ H Q ⟨B, M0, b, P, S, k⟩ => ⟨B, M0, b, P, S, fun x H1 S1 => by
    obtain ⟨M, O⟩ := S1.opn
    obtain ⟨⟨a, dx, xs, ex, ha, hl, ax⟩, _⟩ := O.p
    obtain ⟨v, hv, av⟩ := ax.get hd
    refine ⟨a, C, dx, _, v, ex, O.c.sub _ _ ha, cl, na, lookup_ix hf hv, k v H1 ?_⟩
    exact (S1.back O (Core.refl O.c.sub) (Up.at d v) av).imp ((Up.at d v).and S.up) fun _ _ q => ⟨q.1, q.2.2⟩⟩
end

/-! ### promises -/
/-- a def that changes nothing: F tells of the arguments' data what comes back, or that Unseen(k) is raised -/
def spF (CU : Addr) (F : List D → Res → Prop) : Sp := fun vs H Q E => ∃ ds r M, F ds r ∧ Ex M H ∧ AtL M ds vs ∧ (match r with
  | .ok d => ∀ v H' M', Core H M none M' H' → At M' d v → Q v H'
  | .ex k => ∀ dd H' M', Core H M none M' H' → H' dd = some (placeO k) → E (.ref CU) (some dd) H')
/-- a def whose first argument is a list that it changes -/
structure CoreB (H M : Hp) (a : Addr) (M' H' : Hp) : Prop where
  sub : Ex M' H'
  old : Ex M M'
  eq : ∀ x, H x ≠ none → M' x = M x
  keep : ∀ x o, H x = some o → x ≠ a → H' x = some o
  there : ∀ x, H x ≠ none → H' x ≠ none
def spB (F : List D → List D → List D → D → Prop) : Sp := fun vs H Q _ => ∃ a ws bs ds cs d xs M, vs = .ref a :: ws ∧ H a = some (.lst xs) ∧ M a = none ∧ F bs ds cs d ∧ Ex M H ∧ AtL M bs xs ∧ AtL M ds ws ∧
  ∀ v H' M' ys, CoreB H M a M' H' → H' a = some (.lst ys) → AtL M' cs ys → At M' d v → Q v H'
/-- a def whose result is a new list of the caller's own -/
def spO (F : List D → List D → Prop) : Sp := fun vs H Q _ => ∃ ds rs M, F ds rs ∧ Ex M H ∧ AtL M ds vs ∧
  ∀ p xs H' M', Core H M none M' H' → H p = none → M' p = none → H' p = some (.lst xs) → AtL M' rs xs → Q (.ref p) H'
section
variable {B M0 : Hp} {b : Option Addr} {ρ : List Sl} {P : Hp → Prop} {σ : St} {H : Hp} {ds dfl : List D} {vs dvs : List V} {F : List D → Res → Prop} {CU : Addr} {Q : VK} {E : XK} {d : D} {n : Int}
theorem spF_ok (S : StV B M0 b ρ (fun M => AtL M ds vs ∧ P M) σ H) (uP : Up P) (hf : ∀ M, AtL M dfl dvs) (hF : F (ds ++ dfl) (.ok d)) (k : ∀ v H2, StV B M0 b ρ (fun M => At M d v ∧ P M) σ H2 → Q v H2) : spF CU F (vs ++ dvs) H Q E := by
  obtain ⟨M, O⟩ := S.opn
  exact ⟨ds ++ dfl, .ok d, M, hF, O.c.sub, O.p.1.append (hf M), fun v H' M' c av => k v H' ((S.back O c (Up.at d v) av).imp ((Up.at d v).and uP) fun _ _ q => ⟨q.1, q.2.2⟩)⟩
theorem spF_ex (S : StV B M0 b ρ (fun M => AtL M ds vs ∧ P M) σ H) (uP : Up P) (hf : ∀ M, AtL M dfl dvs) (hF : F (ds ++ dfl) (.ex n)) (k : ∀ dd H2, StV B M0 b ρ P σ H2 → H2 dd = some (placeO n) → E (.ref CU) (some dd) H2) : spF CU F (vs ++ dvs) H Q E := by
  obtain ⟨M, O⟩ := S.opn
  exact ⟨ds ++ dfl, .ex n, M, hF, O.c.sub, O.p.1.append (hf M), fun dd H' M' c hd => k dd H' ((S.back0 O c).imp uP fun _ _ q => q.2) hd⟩
end
section
variable {X : Cx} {W : WX} {CU : Addr} {ρ ρ1 : List Sl} {d : D} {ds dfl : List D} {dvs : List V} {dsv : List Value} {r : Res} {F : List D → Res → Prop} {k : Nat} {f C : Addr} {fd : FuncData} {ps : List Str} {x m : Str} {p pos apos : Pos} {e o : Expr} {es : List Expr}
/-- f(..) that raises nothing here -/
theorem x_callD (G : FnOk X.prog X.w X.K X.mg X.base (L2.CX X.prog X.w) k f fd ps (spF CU F)) (hr : Room k X.A) (hm : X.mg x = some (.ref f)) (hk : PySem.W.keepIn X.K (.ref f) = true) (hb : Binds X.K fd ps dsv) (hd : Vals dvs dsv) (hf : ∀ M, AtL M dfl dvs)
    (ha : PA X (e :: es) (tAG ρ ρ1 ds)) (hF : F (ds ++ dfl) (.ok d)) (hg : Gl X x := by rfl) (hdb : (x == ("__debug__" : Str)) = false := by decide) (he : starEach (e :: es) X.env = (false, eval e X.env) :: starEach es X.env := by rfl) (hpl : (backTo pos (starEach es X.env)).any (·.1) = false := by rfl) :
    PE X (.Call (.Name x p) (e :: es) [] pos) (tG ρ ρ1 d) :=
  pe_imp (pe_call (E := E0) G hr hg hm hk hb hd passL ha hdb he hpl) fun σ H Q ⟨B, M0, b, P, S, k⟩ => ⟨B, M0, b, P, S, fun vs H1 S1 => spF_ok S1 S.up hf hF k⟩
theorem x_call (G : FnOk X.prog X.w X.K X.mg X.base (L2.CX X.prog X.w) k f fd ps (spF CU F)) (hr : Room k X.A) (hm : X.mg x = some (.ref f)) (hk : PySem.W.keepIn X.K (.ref f) = true) (hb : Binds X.K fd ps [])
    (ha : PA X (e :: es) (tAG ρ ρ1 ds)) (hF : F ds (.ok d)) (hg : Gl X x := by rfl) (hdb : (x == ("__debug__" : Str)) = false := by decide) (he : starEach (e :: es) X.env = (false, eval e X.env) :: starEach es X.env := by rfl) (hpl : (backTo pos (starEach es X.env)).any (·.1) = false := by rfl) :
    PE X (.Call (.Name x p) (e :: es) [] pos) (tG ρ ρ1 d) := x_callD (dfl := []) G hr hm hk hb .nil (fun _ => rfl) ha (by rw [List.append_nil]; exact hF) hg hdb he hpl
/-- f(..) that may raise -/
theorem x_callXD (G : FnOk X.prog X.w X.K X.mg X.base (L2.CX X.prog X.w) k f fd ps (spF CU F)) (hr : Room k X.A) (hm : X.mg x = some (.ref f)) (hk : PySem.W.keepIn X.K (.ref f) = true) (hb : Binds X.K fd ps dsv) (hd : Vals dvs dsv) (hf : ∀ M, AtL M dfl dvs) (tk : Takes X W)
    (ha : PA X (e :: es) (tA' ρ ds)) (hF : F (ds ++ dfl) r) (hg : Gl X x := by rfl) (hdb : (x == ("__debug__" : Str)) = false := by decide) (he : starEach (e :: es) X.env = (false, eval e X.env) :: starEach es X.env := by rfl) (hpl : (backTo pos (starEach es X.env)).any (·.1) = false := by rfl) :
    PE X (.Call (.Name x p) (e :: es) [] pos) (tX W CU ρ r) :=
  pe_imp (pe_callSD (E := WE W) G hr hg hm hk hb hd (fun σ => passAt tk σ) ha hdb he hpl) fun σ H Q ⟨B, M0, b, P, S, k⟩ => ⟨B, M0, b, P, S, fun vs H1 S1 => by
    cases r with
    | ok d => exact spF_ok S1 S.up hf hF k
    | ex n => exact spF_ex S1 S.up hf hF k⟩
theorem x_callX (G : FnOk X.prog X.w X.K X.mg X.base (L2.CX X.prog X.w) k f fd ps (spF CU F)) (hr : Room k X.A) (hm : X.mg x = some (.ref f)) (hk : PySem.W.keepIn X.K (.ref f) = true) (hb : Binds X.K fd ps []) (tk : Takes X W)
    (ha : PA X (e :: es) (tA' ρ ds)) (hF : F ds r) (hg : Gl X x := by rfl) (hdb : (x == ("__debug__" : Str)) = false := by decide) (he : starEach (e :: es) X.env = (false, eval e X.env) :: starEach es X.env := by rfl) (hpl : (backTo pos (starEach es X.env)).any (·.1) = false := by rfl) :
    PE X (.Call (.Name x p) (e :: es) [] pos) (tX W CU ρ r) := x_callXD (dfl := []) G hr hm hk hb .nil (fun _ => rfl) tk ha (by rw [List.append_nil]; exact hF) hg hdb he hpl
/-- o.m(..) -/
theorem lookup_no {m : Str} : ∀ {ks : List Str} {xs : List V}, fieldIx m ks = none → (ks.zip xs).lookup m = none
  | [], _, _ => by simp
  | _ :: _, [], _ => by simp
  | k :: ks, y :: ys, h => by
    unfold fieldIx at h
    by_cases e : m = k
    · rw [if_pos e] at h; cases h
    · rw [if_neg e] at h
      have eb : (m == k) = false := by simpa using e
      cases q : fieldIx m ks with
      | some i => rw [q] at h; cases h
      | none =>
        rw [List.zip_cons_cons]
        simp only [List.lookup, eb]
        exact lookup_no q
theorem pe_methSD {pl : Sem Bool} {sp : Sp} {E : St → XK} {ta : TE} {t : TA} (he : PE X o ta) (c : Cls X.K C) (hm : Meth X.K C m f) (G : FnOk X.prog X.w X.K X.mg X.base (L2.CX X.prog X.w) k f fd ps sp) (hr : Room k X.A) (hb : Binds X.K fd ps []) (hx : ∀ σ, PassesAt (L2.CX X.prog X.w) X σ (E σ)) (ha : PA X (e :: es) t)
    (hst : starEach (e :: es) X.env = (false, eval e X.env) :: starEach es X.env := by rfl) (hpl : (backTo pos (starEach es X.env)).any (·.1) = false := by rfl)
    (ht : eval (.Call (.Attribute o m apos) (e :: es) [] pos) X.env = (do
      let ov ← eval o X.env
      standAt apos.atName
      let (f, first) ← holding [ov] (getMethod ov m pl)
      callWith pos f first (backTo pos (starEach (e :: es) X.env)) (backToKw pos (keywordEach [] X.env))) := by rfl) :
    PE X (.Call (.Attribute o m apos) (e :: es) [] pos) (fun σ H Q => ta σ H fun x H1 => ∃ a dx fs, x = .ref a ∧ H1 a = some (.ins C dx fs) ∧ fs.lookup m = none ∧ t σ H1 fun vs H2 => sp (x :: vs) H2 Q (E σ)) := by
  refine ⟨fun pins s σ H Q I h => ?_⟩
  refine PySem.W.methodCall_KW (pl := pl) (thn (he.run pins s σ H _ I h) fun u s1 ⟨x, H1, I1, rx, a, dx, fs, ex, ea, l, q⟩ => ?_) ht
  subst ex
  obtain rfl : u = Value.ref a := rx
  refine getmeth_ok I1 ea c hm l ?_
  refine PySem.W.callWith_K (first := [.ref a]) (h₀ := X.base) I.ok.mod.kin hm.kp (thn (ha.run pos pins s1 σ H1 _ I1 q) fun us s2 ⟨vs, H2, I2, r, q2⟩ => ⟨I2.kIn, ?_⟩) hst hpl
  exact run_fnSD (us := .ref a :: us) (vs := .ref a :: vs) (dvs := []) (ds := []) (E := E) G hr hb .nil (hx σ) I2 (.cons rfl r) (by rw [List.append_nil]; exact q2)
theorem x_methX {pl : Sem Bool} {ks : List Str} {fs : List D} (h : PE X o (tD ρ (.ins C ks fs))) (c : Cls X.K C) (hm : Meth X.K C m f) (hno : fieldIx m ks = none) (G : FnOk X.prog X.w X.K X.mg X.base (L2.CX X.prog X.w) k f fd ps (spF CU F)) (hr : Room k X.A) (hb : Binds X.K fd ps []) (tk : Takes X W)
    (ha : PA X (e :: es) (tA' ρ ds)) (hF : F (.ins C ks fs :: ds) r)
    (hst : starEach (e :: es) X.env = (false, eval e X.env) :: starEach es X.env := by rfl) (hpl : (backTo pos (starEach es X.env)).any (·.1) = false := by rfl)
    (ht : eval (.Call (.Attribute o m apos) (e :: es) [] pos) X.env = (do
      let ov ← eval o X.env
      standAt apos.atName
      let (f, first) ← holding [ov] (getMethod ov m pl)
      callWith pos f first (backTo pos (starEach (e :: es) X.env)) (backToKw pos (keywordEach [] X.env))) := by rfl) :
    PE X (.Call (.Attribute o m apos) (e :: es) [] pos) (tX W CU ρ r) :=
  pe_imp (pe_methSD (E := WE W) h c hm G hr hb (fun σ => passAt tk σ) ha hst hpl ht) fun σ H Q ⟨B, M0, b, P, S, kk⟩ => ⟨B, M0, b, P, S, fun x H1 S1 => by
    obtain ⟨M, O⟩ := S1.opn
    obtain ⟨⟨a, dx, xs, ex, ha, hl, ax⟩, _⟩ := O.p
    refine ⟨a, dx, _, ex, O.c.sub _ _ ha, lookup_no hno, B, M0, b, _, S1, fun vs H2 S2 => ?_⟩
    have S3 : StV B M0 b ρ (fun M => AtL M (.ins C ks fs :: ds) (x :: vs) ∧ P M) σ H2 := S2.imp ((Up.atL _ _).and S.up) fun _ _ q => ⟨AtL.cons q.2.1 q.1, q.2.2⟩
    have e0 : spF CU F ((x :: vs) ++ []) H2 Q (WE W σ) := by
      cases r with
      | ok d => exact spF_ok (dfl := []) S3 S.up (fun _ => rfl) (by rw [List.append_nil]; exact hF) kk
      | ex n => exact spF_ex (dfl := []) S3 S.up (fun _ => rfl) (by rw [List.append_nil]; exact hF) kk
    rw [List.append_nil] at e0
    exact e0⟩
theorem x_meth {pl : Sem Bool} {ks : List Str} {fs : List D} (h : PE X o (tD ρ (.ins C ks fs))) (c : Cls X.K C) (hm : Meth X.K C m f) (hno : fieldIx m ks = none) (G : FnOk X.prog X.w X.K X.mg X.base (L2.CX X.prog X.w) k f fd ps (spF CU F)) (hr : Room k X.A) (hb : Binds X.K fd ps [])
    (ha : PA X (e :: es) (tA' ρ ds)) (hF : F (.ins C ks fs :: ds) (.ok d))
    (hst : starEach (e :: es) X.env = (false, eval e X.env) :: starEach es X.env := by rfl) (hpl : (backTo pos (starEach es X.env)).any (·.1) = false := by rfl)
    (ht : eval (.Call (.Attribute o m apos) (e :: es) [] pos) X.env = (do
      let ov ← eval o X.env
      standAt apos.atName
      let (f, first) ← holding [ov] (getMethod ov m pl)
      callWith pos f first (backTo pos (starEach (e :: es) X.env)) (backToKw pos (keywordEach [] X.env))) := by rfl) :
    PE X (.Call (.Attribute o m apos) (e :: es) [] pos) (tD ρ d) :=
  pe_imp (pe_meth (E := E0) (dvs := []) h c hm G hr hb .nil passL ha hst hpl ht) fun σ H Q ⟨B, M0, b, P, S, kk⟩ => ⟨B, M0, b, P, S, fun x H1 S1 => by
    obtain ⟨M, O⟩ := S1.opn
    obtain ⟨⟨a, dx, xs, ex, ha, hl, ax⟩, _⟩ := O.p
    refine ⟨a, dx, _, ex, O.c.sub _ _ ha, lookup_no hno, B, M0, b, _, S1, fun vs H2 S2 => ?_⟩
    have S3 : StV B M0 b ρ (fun M => AtL M (.ins C ks fs :: ds) (x :: vs) ∧ P M) σ H2 := S2.imp ((Up.atL _ _).and S.up) fun _ _ q => ⟨AtL.cons q.2.1 q.1, q.2.2⟩
    exact spF_ok (dfl := []) S3 S.up (fun _ => rfl) (by rw [List.append_nil]; exact hF) kk⟩
end
end Sd

namespace Sd
open PySem PySem.Spec L2

/-! ### stores -/
section
variable {B M0 : Hp} {b : Option Addr} {ρ : List Sl} {P : Hp → Prop} {σ : St} {H : Hp} {ds es : List D} {vs xs ys : List V} {p a : Addr} {n : Nat}
/-- the mutable thing at slot n is changed: what it is from then on -/
def reSl : Sl → D → Sl
  | .own _, d => .own d
  | .box _, d => .box d
  | s, _ => s
def isMut : Sl → Bool
  | .own _ => true
  | .box _ => true
  | _ => false
theorem StV.write {o : HO} {s : Sl} {d1 : D} (S : StV B M0 b ρ P σ H) (h0 : ρ[n]? = some s) (hm : isMut s = true) (ha : σ[n]? = some (some (.ref a)))
    (hw : ∀ M, Ex M H → P M → MAt M (upd H a o) a d1) : StV B M0 b (ρ.set n (reSl s d1)) P σ (upd H a o) := by
  obtain ⟨M, c, q, sl⟩ := S.ex
  have ma : M a = none ∧ (B a = none ∨ b = some a) := by
    have k := sl n _ h0
    cases s with
    | own d => obtain ⟨a', e1, e2, e3, _⟩ := k; rw [ha] at e1; cases e1; exact ⟨e2, .inl e3⟩
    | box d => obtain ⟨a', e1, e2, e3, _⟩ := k; rw [ha] at e1; cases e1; exact ⟨e2, .inr e3.1⟩
    | any => cases hm
    | val d => cases hm
  have nl : n < ρ.length := (List.getElem?_eq_some_iff.mp h0).1
  have off : ∀ (j : Nat) (t : Sl) (a' : Addr), j ≠ n → ρ[j]? = some t → isMut t = true → σ[j]? = some (some (.ref a')) → a' ≠ a := fun j t a' hj ht hmt ha' z => by
    subst z
    have k := sl n _ h0
    have k2 := sl j _ ht
    cases s with
    | any => cases hm
    | val d => cases hm
    | own d =>
      obtain ⟨a1, e1, _, e2, _⟩ := k
      rw [ha] at e1; cases e1
      cases t with
      | any => cases hmt
      | val d => cases hmt
      | own d' => exact S.apart j n _ _ hj ht h0 (ha'.trans ha.symm)
      | box d' =>
        obtain ⟨a2, f1, _, f2, _⟩ := k2
        rw [ha'] at f1; cases f1
        exact f2.2 e2
    | box d =>
      obtain ⟨a1, e1, _, e2, _⟩ := k
      rw [ha] at e1; cases e1
      cases t with
      | any => cases hmt
      | val d => cases hmt
      | own d' =>
        obtain ⟨a2, f1, _, f2, _⟩ := k2
        rw [ha'] at f1; cases f1
        exact e2.2 f2
      | box d' => exact hj (S.one j n _ _ ht h0)
  have hsub : Ex M (upd H a o) := fun x u hx => by
    rw [upd_ne (fun z => by rw [z, ma.1] at hx; cases hx)]; exact c.sub x u hx
  refine ⟨⟨M, ⟨hsub, c.old, c.eq, fun x u hx hb => ?_, fun x hx => ?_⟩, q, fun j t hj => ?_⟩, S.up, by rw [List.length_set]; exact S.len, fun j k d e hjk h1 h2 => ?_, fun j k d e h1 h2 => ?_⟩
  · have : x ≠ a := fun z => by
      subst z
      rcases ma.2 with z | z
      · rw [z] at hx; cases hx
      · exact hb z
    rw [upd_ne this]; exact c.keep x u hx hb
  · by_cases z : x = a
    · subst z; rw [upd_same]; exact fun z => by cases z
    · rw [upd_ne z]; exact c.there x hx
  · rcases set_at hj with ⟨e1, e2, _⟩ | ⟨e1, e2⟩
    · subst e1; subst e2
      have k := sl j _ h0
      cases s with
      | any => cases hm
      | val d => cases hm
      | own d => obtain ⟨a', e1, e2, e3, _⟩ := k; rw [ha] at e1; cases e1; exact ⟨a, ha, e2, e3, hw M c.sub q⟩
      | box d => obtain ⟨a', e1, e2, e3, _⟩ := k; rw [ha] at e1; cases e1; exact ⟨a, ha, e2, e3, hw M c.sub q⟩
    · have k := sl j _ e2
      cases t with
      | any => trivial
      | val d => exact k
      | own d => obtain ⟨a', f1, f2, f3, f4⟩ := k; exact ⟨a', f1, f2, f3, f4.on (upd_ne (off j _ a' e1 e2 rfl f1))⟩
      | box d => obtain ⟨a', f1, f2, f3, f4⟩ := k; exact ⟨a', f1, f2, f3, f4.on (upd_ne (off j _ a' e1 e2 rfl f1))⟩
  · have g : ∀ (i : Nat) (d : D), (ρ.set n (reSl s d1))[i]? = some (.own d) → ∃ d', ρ[i]? = some (.own d') := fun i d hi => by
      rcases set_at hi with ⟨e1, e2, _⟩ | ⟨_, e2⟩
      · subst e1
        cases s with
        | own d0 => exact ⟨d0, h0⟩
        | box d0 => cases e2
        | any => cases hm
        | val d => cases hm
      · exact ⟨d, e2⟩
    obtain ⟨d', h1'⟩ := g j d h1
    obtain ⟨e', h2'⟩ := g k e h2
    exact S.apart j k d' e' hjk h1' h2'
  · have g : ∀ (i : Nat) (d : D), (ρ.set n (reSl s d1))[i]? = some (.box d) → ∃ d', ρ[i]? = some (.box d') := fun i d hi => by
      rcases set_at hi with ⟨e1, e2, _⟩ | ⟨_, e2⟩
      · subst e1
        cases s with
        | box d0 => exact ⟨d0, h0⟩
        | own d0 => cases e2
        | any => cases hm
        | val d => cases hm
      · exact ⟨d, e2⟩
    obtain ⟨d', h1'⟩ := g j d h1
    obtain ⟨e', h2'⟩ := g k e h2
    exact S.one j k d' e' h1' h2'
/-- a list of one's own is changed no more -/
theorem StV.freeze (S : StV B M0 b ρ P σ H) (h0 : ρ[n]? = some (.own (.lst ds))) : StV B M0 b (ρ.set n (.val (.lst ds))) P σ H := by
  obtain ⟨M, c, q, sl⟩ := S.ex
  obtain ⟨a, e1, e2, e3, xs, e4, e5⟩ := sl n _ h0
  have e0 : Ex M (upd M a (.lst xs)) := Ex.new e2
  have nl : n < ρ.length := (List.getElem?_eq_some_iff.mp h0).1
  have off : ∀ (j : Nat) (t : Sl) (a' : Addr), j ≠ n → ρ[j]? = some t → isMut t = true → σ[j]? = some (some (.ref a')) → a' ≠ a := fun j t a' hj ht hmt ha' z => by
    subst z
    cases t with
    | any => cases hmt
    | val d => cases hmt
    | own d' => exact S.apart j n _ _ hj ht h0 (ha'.trans e1.symm)
    | box d' =>
      obtain ⟨a2, f1, _, f2, _⟩ := sl j _ ht
      rw [ha'] at f1; cases f1
      exact f2.2 e3
  refine ⟨⟨upd M a (.lst xs), ⟨fun x u hx => ?_, c.old.trans e0, fun x hx => ?_, c.keep, c.there⟩, S.up _ _ e0 q, fun j t hj => ?_⟩, S.up, by rw [List.length_set]; exact S.len, fun j k d e hjk h1 h2 => ?_, fun j k d e h1 h2 => ?_⟩
  · by_cases z : x = a
    · subst z; rw [upd_same] at hx; cases hx; exact e4
    · rw [upd_ne z] at hx; exact c.sub x u hx
  · have : x ≠ a := fun z => hx (z ▸ e3)
    rw [upd_ne this]; exact c.eq x hx
  · rcases set_at hj with ⟨f1, f2, _⟩ | ⟨f1, f2⟩
    · subst f1; subst f2
      exact ⟨.ref a, e1, a, xs, rfl, upd_same, e5.up e0⟩
    · have k := sl j _ f2
      cases t with
      | any => trivial
      | val d => obtain ⟨v, g1, g2⟩ := k; exact ⟨v, g1, g2.up e0⟩
      | own d => obtain ⟨a', g1, g2, g3, g4⟩ := k; exact ⟨a', g1, by rw [upd_ne (off j _ a' f1 f2 rfl g1)]; exact g2, g3, g4.up e0⟩
      | box d => obtain ⟨a', g1, g2, g3, g4⟩ := k; exact ⟨a', g1, by rw [upd_ne (off j _ a' f1 f2 rfl g1)]; exact g2, g3, g4.up e0⟩
  · rcases set_at h1 with ⟨_, z, _⟩ | ⟨_, z⟩
    · cases z
    · rcases set_at h2 with ⟨_, y, _⟩ | ⟨_, y⟩
      · cases y
      · exact S.apart j k d e hjk z y
  · rcases set_at h1 with ⟨_, z, _⟩ | ⟨_, z⟩
    · cases z
    · rcases set_at h2 with ⟨_, y, _⟩ | ⟨_, y⟩
      · cases y
      · exact S.one j k d e z y
end

/-! ### what slots may be forgotten, list by list -/
def SubL : List Sl → List Sl → Prop
  | [], [] => True
  | s' :: r', s :: r => (s' = .any ∨ s' = s) ∧ SubL r' r
  | _, _ => False
theorem SubL.sub : ∀ {a c : List Sl}, SubL a c → Sub a c
  | [], [], _ => ⟨rfl, fun i s h => by simp at h⟩
  | s' :: r', s :: r, ⟨h, t⟩ => by
    obtain ⟨l, k⟩ := t.sub
    refine ⟨by simp only [List.length_cons, l], fun i x hx => ?_⟩
    cases i with
    | zero =>
      have e : s' = x := by simpa using hx
      subst e
      rcases h with h | h
      · exact .inl h
      · right; simpa using h.symm
    | succ i => simpa using k i x (by simpa using hx)
  | [], _ :: _, h => h.elim
  | _ :: _, [], h => h.elim
theorem SubL.refl : ∀ (ρ : List Sl), SubL ρ ρ
  | [] => trivial
  | _ :: r => ⟨.inr rfl, SubL.refl r⟩
def anys (n : Nat) : List Sl := List.replicate n .any
theorem SubL.anys : ∀ (ρ : List Sl), SubL (Sd.anys ρ.length) ρ
  | [] => trivial
  | _ :: r => ⟨.inl rfl, SubL.anys r⟩

/-! ### statements -/
section
variable {X : Cx} {W : WX} {CU : Addr} {ρ ρ' ρ1 ρ2 : List Sl} {d : D} {ds : List D} {e e1 e2 : Expr} {es : List Expr} {pos p' : Pos} {o : Out} {st : Stmt} {sts body els : List Stmt} {c : Bool} {n i : Nat} {r : Res} {x : Str}
theorem s_seq (h1 : PS X st (tS W CU ρ (.nx ρ1))) (h2 : PSs X sts (tS W CU ρ1 o)) : PSs X (st :: sts) (tS W CU ρ o) := pss_imp (pss_cons h1 h2) fun D σ H ⟨B, M0, b, P, S, k⟩ => ⟨B, M0, b, P, S, fun σ' H' S' => ⟨B, M0, b, P, S', k⟩⟩
theorem s_leave (h1 : PS X st (tS W CU ρ o)) (hl : leave o = true) : PSs X (st :: sts) (tS W CU ρ o) := pss_imp (pss_cons h1 pss_never) fun D σ H ⟨B, M0, b, P, S, k⟩ => ⟨B, M0, b, P, S, by
  cases o with
  | nx _ => cases hl
  | rt _ _ => exact k
  | bk _ => exact k
  | ct _ => exact k
  | ex _ _ => exact k
  | rn _ _ => exact k⟩
theorem s_nil (h : SubL ρ' ρ) : PSs X [] (tS W CU ρ (.nx ρ')) := pss_imp pss_nil fun D σ H ⟨B, M0, b, P, S, k⟩ => k σ H (S.sub h.sub)
theorem s_one (h1 : PS X st (tS W CU ρ (.nx ρ'))) : PSs X [st] (tS W CU ρ (.nx ρ')) := s_seq h1 (s_nil (SubL.refl _))
/-- forget, freeze ahead of a statement -/
theorem s_sub (h : SubL ρ' ρ) (k : PSs X sts (tS W CU ρ' o)) : PSs X sts (tS W CU ρ o) := pss_imp k fun D σ H ⟨B, M0, b, P, S, k⟩ => ⟨B, M0, b, P, S.sub h.sub, k⟩
theorem s_freeze (n : Nat) (k : PSs X sts (tS W CU (ρ.set n (.val (.lst ds))) o)) (h0 : ρ[n]? = some (.own (.lst ds)) := by rfl) : PSs X sts (tS W CU ρ o) := pss_imp k fun D σ H ⟨B, M0, b, P, S, k⟩ => ⟨B, M0, b, P, S.freeze h0, k⟩
theorem s_cast (h : ρ' = ρ) (k : PSs X sts (tS W CU ρ' o)) : PSs X sts (tS W CU ρ o) := h ▸ k
theorem s_out {o' : Out} (h : o' = o) (k : PSs X sts (tS W CU ρ o')) : PSs X sts (tS W CU ρ o) := h ▸ k
def outS (ρ : List Sl) (i : Nat) : Res → Out
  | .ok d => .nx (ρ.set i (.val d))
  | .ex k => .ex ρ k
theorem s_setX (i : Nat) (hN : X.N.Nodup) (he : PE X e (tX W CU ρ r)) (hi : X.N[i]? = some x := by rfl) (hx : Loc X.env.scope x := by exact Or.inl rfl) (hs : swapsWith e (some (.Name x p')) pos.line X.env = pure false := by rfl)
    (hf : X.fn x = true ∨ X.env.scope.names.lookup x = some .local := by first | exact .inl rfl | exact .inr rfl | assumption) : PS X (.Assign [.Name x p'] e pos) (tS W CU ρ (outS ρ i r)) :=
  ps_imp (ps_set hN hi hx he hs hf) fun D σ H ⟨B, M0, b, P, S, k⟩ => ⟨B, M0, b, P, S, by
    cases r with
    | ok d => exact fun v H2 S2 => k _ _ (S2.setVal S.up i)
    | ex n => exact fun dd H2 S2 h => k dd σ H2 S2 h⟩
theorem s_set (i : Nat) (hN : X.N.Nodup) (he : PE X e (tG ρ ρ1 d)) (hi : X.N[i]? = some x := by rfl) (hx : Loc X.env.scope x := by first | exact Or.inl rfl | exact Or.inr rfl) (hs : swapsWith e (some (.Name x p')) pos.line X.env = pure false := by rfl)
    (hf : X.fn x = true ∨ X.env.scope.names.lookup x = some .local := by first | exact .inl rfl | exact .inr rfl | assumption) : PS X (.Assign [.Name x p'] e pos) (tS W CU ρ (.nx (ρ1.set i (.val d)))) :=
  ps_imp (ps_set hN hi hx he hs hf) fun D σ H ⟨B, M0, b, P, S, k⟩ => ⟨B, M0, b, P, S, fun v H2 S2 => k _ _ (S2.setVal S.up i)⟩
/-- a new list -/
def tNG (ρ ρ' : List Sl) (ds : List D) : TE := fun σ H Q => ∃ B M0 b P, StV B M0 b ρ P σ H ∧ ∀ p vs H1, StV B M0 b ρ' (fun M => AtL M ds vs ∧ P M) σ H1 → H1 p = none → Q (.ref p) (upd H1 p (.lst vs))
abbrev tN (ρ : List Sl) (ds : List D) : TE := tNG ρ ρ ds
theorem n_lst (h : PA X es (tAG ρ ρ1 ds)) (hl : ds.length ≤ 100000) : PE X (.List es pos) (tNG ρ ρ1 ds) := pe_imp (pe_lst h) fun σ H Q ⟨B, M0, b, P, S, k⟩ => ⟨B, M0, b, P, S, fun vs H1 S1 => by
  obtain ⟨M, e, q, _⟩ := S1.know
  refine ⟨?_, fun p hp => k p vs H1 S1 hp⟩
  rw [← q.len]; exact Nat.le_trans hl (by decide)⟩
/-- [a] * n -/
theorem n_rep {k : Int} (h1 : PE X e1 (tD ρ (.lst [d]))) (h2 : PE X e2 (tD ρ (.int k))) (h0 : 0 ≤ k) (hk : k ≤ 100000) : PE X (.BinOp e1 .Mult e2 pos) (tN ρ (List.replicate k.toNat d)) := pe_imp (pe_op op_rep h1 h2) fun σ H Q ⟨B, M0, b, P, S, kk⟩ => ⟨B, M0, b, P, S, fun x H1 S1 => ⟨B, M0, b, _, S1, fun y H2 S2 => by
  obtain ⟨M, O⟩ := S2.opn
  obtain ⟨h2, ⟨a, xs, ex, hx, ax⟩, _⟩ := O.p
  have ey : y = .int k := h2
  have hl := ax.len
  have ls : xs.length = 1 := by rw [← hl]; rfl
  refine ⟨a, k, xs, ex, ey, O.c.sub _ _ hx, by omega, by omega, by rw [ls]; exact Nat.le_trans (show 1 * k.toNat ≤ 100000 by omega) (by decide), fun p hp => ?_⟩
  refine kk p _ H2 ((S2.back O (Core.refl O.c.sub) (G := fun M => AtL M (List.replicate k.toNat d) (List.replicate k.toNat xs).flatten) (Up.atL _ _) ?_).imp ((Up.atL _ _).and S.up) fun _ _ q => ⟨q.1, q.2.2.2⟩) hp
  obtain ⟨x0, r, e0, a0, r0⟩ := ax
  cases r0
  subst e0
  have hr : ∀ m : Nat, AtL M (List.replicate m d) (List.replicate m [x0]).flatten := fun m => by
    induction m with
    | zero => exact rfl
    | succ m ih => exact ⟨x0, _, rfl, a0, ih⟩
  exact hr _⟩⟩
theorem s_setN (i : Nat) (hN : X.N.Nodup) (he : PE X e (tNG ρ ρ1 ds)) (hi : X.N[i]? = some x := by rfl) (hx : Loc X.env.scope x := by first | exact Or.inl rfl | exact Or.inr rfl) (hs : swapsWith e (some (.Name x p')) pos.line X.env = pure false := by rfl)
    (hf : X.fn x = true ∨ X.env.scope.names.lookup x = some .local := by first | exact .inl rfl | exact .inr rfl | assumption) : PS X (.Assign [.Name x p'] e pos) (tS W CU ρ (.nx (ρ1.set i (.own (.lst ds))))) :=
  ps_imp (ps_set hN hi hx he hs hf) fun D σ H ⟨B, M0, b, P, S, k⟩ => ⟨B, M0, b, P, S, fun p vs H1 S1 hp => k _ _ (S1.setOwn S.up hp i)⟩
def outR (ρ ρf : List Sl) : Res → Out
  | .ok d => .rt ρf d
  | .ex k => .ex ρ k
theorem s_retX {ρf : List Sl} (he : PE X e (tX W CU ρ r)) (hs : SubL ρf ρ) : PS X (.Return (some e) pos) (tS W CU ρ (outR ρ ρf r)) := ps_imp (ps_ret he) fun D σ H ⟨B, M0, b, P, S, k⟩ => ⟨B, M0, b, P, S, by
    cases r with
    | ok d => exact fun v H2 S2 => k v σ H2 (S2.sub hs.sub)
    | ex n => exact fun dd H2 S2 h => k dd σ H2 S2 h⟩
theorem s_retN (he : PE X e (tNG ρ ρ1 ds)) : PS X (.Return (some e) pos) (tS W CU ρ (.rn ρ1 ds)) := ps_imp (ps_ret he) fun D σ H ⟨B, M0, b, P, S, k⟩ => ⟨B, M0, b, P, S, fun p vs H2 S2 hp => k p vs σ H2 S2 hp⟩
theorem s_ret {ρf : List Sl} (he : PE X e (tG ρ ρ1 d)) (hs : SubL ρf ρ1) : PS X (.Return (some e) pos) (tS W CU ρ (.rt ρf d)) := ps_imp (ps_ret he) fun D σ H ⟨B, M0, b, P, S, k⟩ => ⟨B, M0, b, P, S, fun v H2 S2 => k v σ H2 (S2.sub hs.sub)⟩
/-- return e as the last statement -/
theorem r_retN (he : PE X e (tNG ρ ρ1 ds)) : PSs X (.Return (some e) pos :: sts) (tS W CU ρ (.rn ρ1 ds)) := s_leave (s_retN he) rfl
theorem r_ret {ρf : List Sl} (he : PE X e (tG ρ ρ1 d)) (hs : SubL ρf ρ1) : PSs X (.Return (some e) pos :: sts) (tS W CU ρ (.rt ρf d)) := s_leave (s_ret he hs) rfl
theorem r_retX {ρf : List Sl} (he : PE X e (tX W CU ρ r)) (hs : SubL ρf ρ) : PSs X (.Return (some e) pos :: sts) (tS W CU ρ (outR ρ ρf r)) := s_leave (s_retX he hs) (by cases r <;> rfl)
theorem s_ifT {u : TS} (h : PT X e (tTG ρ ρ2 true)) (h1 : PSs X body (tS W CU ρ2 o)) (h2 : PSs X els u) : PS X (.If e body els pos) (tS W CU ρ o) := ps_imp (ps_if h h1 h2) fun D σ H ⟨B, M0, b, P, S, k⟩ => ⟨B, M0, b, P, S, fun H1 S1 => iteT ⟨B, M0, b, P, S1, k⟩⟩
theorem s_ifF {u : TS} (h : PT X e (tTG ρ ρ2 false)) (h1 : PSs X body u) (h2 : PSs X els (tS W CU ρ2 o)) : PS X (.If e body els pos) (tS W CU ρ o) := ps_imp (ps_if h h1 h2) fun D σ H ⟨B, M0, b, P, S, k⟩ => ⟨B, M0, b, P, S, fun H1 S1 => iteF ⟨B, M0, b, P, S1, k⟩⟩
theorem s_if (h : PT X e (tTG ρ ρ2 c)) (h1 : c = true → PSs X body (tS W CU ρ2 o)) (h2 : c = false → PSs X els (tS W CU ρ2 o)) : PS X (.If e body els pos) (tS W CU ρ o) := by
  cases c with
  | true => exact s_ifT h (h1 rfl) pss_never
  | false => exact s_ifF h pss_never (h2 rfl)
/-- if c: .. (leaves) | the rest -/
theorem r_when (h : PT X e (tTG ρ ρ2 c)) (h1 : c = true → PSs X body (tS W CU ρ2 o) ∧ leave o = true) (h2 : c = false → PSs X sts (tS W CU ρ2 o)) : PSs X (.If e body [] pos :: sts) (tS W CU ρ o) := by
  cases c with
  | true => exact s_leave (s_ifT h (h1 rfl).1 pss_never) (h1 rfl).2
  | false => exact s_seq (s_ifF h pss_never (s_nil (SubL.refl _))) (h2 rfl)
theorem r_if (h : PT X e (tTG ρ ρ2 c)) (h1 : c = true → PSs X body (tS W CU ρ2 (.nx ρ1))) (h2 : c = false → PSs X els (tS W CU ρ2 (.nx ρ1))) (h3 : PSs X sts (tS W CU ρ1 o)) : PSs X (.If e body els pos :: sts) (tS W CU ρ o) := s_seq (s_if h h1 h2) h3
/-- a test that is known -/
theorem r_skip (h : PT X e (tTG ρ ρ2 false)) (h2 : PSs X sts (tS W CU ρ2 o)) : PSs X (.If e body [] pos :: sts) (tS W CU ρ o) := s_seq (s_ifF h pss_never (s_nil (SubL.refl _))) h2
theorem r_take (h : PT X e (tTG ρ ρ2 true)) (h1 : PSs X body (tS W CU ρ2 o)) (hl : leave o = true) : PSs X (.If e body els pos :: sts) (tS W CU ρ o) := s_leave (s_ifT h h1 pss_never) hl
theorem r_takeN (h : PT X e (tTG ρ ρ2 true)) (h1 : PSs X body (tS W CU ρ2 (.nx ρ1))) (h2 : PSs X sts (tS W CU ρ1 o)) : PSs X (.If e body els pos :: sts) (tS W CU ρ o) := s_seq (s_ifT h h1 pss_never) h2
theorem r_elseN (h : PT X e (tTG ρ ρ2 false)) (h1 : PSs X els (tS W CU ρ2 (.nx ρ1))) (h2 : PSs X sts (tS W CU ρ1 o)) : PSs X (.If e body els pos :: sts) (tS W CU ρ o) := s_seq (s_ifF h pss_never h1) h2
/-- x op= e, ints -/
theorem s_aug {op : Operator} {j k : Int} {C : Int → Int → Prop} {g : Int → Int → V} (i : Nat) (hN : X.N.Nodup) (ho : OpR X (inplaceOp op) (rI C g)) (he : PE X e (tD ρ (.int k))) (h0 : ρ[i]? = some (.val (.int j))) (hC : C j k) (hd : ∀ M, At M d (g j k))
    (hi : X.N[i]? = some x := by rfl) (hx : Loc X.env.scope x := by exact Or.inl rfl) (hf : X.fn x = true ∨ X.env.scope.names.lookup x = some .local := by first | exact .inl rfl | exact .inr rfl | assumption) :
    PS X (.AugAssign (.Name x p') op e pos) (tS W CU ρ (.nx (ρ.set i (.val d)))) :=
  ps_imp (ps_aug (ti := fun x y H Q => rI C g x y H Q) hN hi hx he (fun pins s σ H x y v u Q I r1 r2 h => ho pins s σ H x y v u Q I r1 r2 h) hf) fun D σ H ⟨B, M0, b, P, S, kk⟩ => by
    obtain ⟨v, hv, S0⟩ := S.slot h0
    obtain ⟨M', _, h', _⟩ := S0.know
    have ev : v = .int j := h'
    refine ⟨v, hv, B, M0, b, P, S, fun y H1 S1 => ?_⟩
    obtain ⟨M, _, h, _⟩ := S1.know
    have ey : y = .int k := h
    exact ⟨j, k, ev, ey, hC, kk _ H1 (((S1.imp S.up fun _ _ q => q.2).put hd).setVal S.up i)⟩
theorem iop_addC : OpR X (inplaceOp .Add) (rI (fun _ _ => True) fun i j => .int (i + j)) := opI fun _ _ _ _ _ _ _ _ q => PyProof.Rows.iadd_int q
theorem iop_subC : OpR X (inplaceOp .Sub) (rI (fun _ _ => True) fun i j => .int (i - j)) := opI fun _ _ _ _ _ _ _ _ q => PyProof.Rows.isub_int q
theorem iop_mulW : OpR X (inplaceOp .Mult) (rI CMulW fun i j => .int (i * j)) := opI fun _ _ _ _ _ _ _ hc q => PyProof.Rows.imul_int q hc.ok
theorem s_augA {j k : Int} (i : Nat) (hN : X.N.Nodup) (he : PE X e (tD ρ (.int k))) (h0 : ρ[i]? = some (.val (.int j)) := by rfl) (hi : X.N[i]? = some x := by rfl) (hx : Loc X.env.scope x := by exact Or.inl rfl) (hf : X.fn x = true ∨ X.env.scope.names.lookup x = some .local := by first | exact .inl rfl | exact .inr rfl | assumption) :
    PS X (.AugAssign (.Name x p') .Add e pos) (tS W CU ρ (.nx (ρ.set i (.val (.int (j + k)))))) := s_aug i hN iop_addC he h0 trivial (fun _ => rfl) hi hx hf
theorem s_augS {j k : Int} (i : Nat) (hN : X.N.Nodup) (he : PE X e (tD ρ (.int k))) (h0 : ρ[i]? = some (.val (.int j)) := by rfl) (hi : X.N[i]? = some x := by rfl) (hx : Loc X.env.scope x := by exact Or.inl rfl) (hf : X.fn x = true ∨ X.env.scope.names.lookup x = some .local := by first | exact .inl rfl | exact .inr rfl | assumption) :
    PS X (.AugAssign (.Name x p') .Sub e pos) (tS W CU ρ (.nx (ρ.set i (.val (.int (j - k)))))) := s_aug i hN iop_subC he h0 trivial (fun _ => rfl) hi hx hf
theorem s_augM {j k : Int} {n m : Nat} (i : Nat) (hN : X.N.Nodup) (he : PE X e (tD ρ (.int k))) (b1 : Bd n j) (b2 : Bd m k) (l : n + m ≤ 900000) (h0 : ρ[i]? = some (.val (.int j)) := by rfl) (hi : X.N[i]? = some x := by rfl) (hx : Loc X.env.scope x := by exact Or.inl rfl) (hf : X.fn x = true ∨ X.env.scope.names.lookup x = some .local := by first | exact .inl rfl | exact .inr rfl | assumption) :
    PS X (.AugAssign (.Name x p') .Mult e pos) (tS W CU ρ (.nx (ρ.set i (.val (.int (j * k)))))) := s_aug i hN iop_mulW he h0 (b1.mulW b2 l) (fun _ => rfl) hi hx hf
/-- xs.append(e), xs at slot n -/
theorem s_app {s : Sl} {apos cpos : Pos} (n : Nat) (he : PE X e (tD ρ d)) (h0 : ρ[n]? = some s) (hs : s = .own (.lst ds) ∨ s = .box (.lst ds)) (hl : ds.length < 100000) (hN : X.N[n]? = some x := by rfl)
    (hv : Vis X.env.scope x := by first | exact Or.inl rfl | exact Or.inr (Or.inl rfl) | exact Or.inr (Or.inr rfl)) (hd : (x == ("__debug__" : Str)) = false := by decide) (hcd : (x == ("__classdict__" : Str)) = false := by decide)
    (hbase : attributeBase (.Name x p') "append" X.env (eval (.Name x p') X.env) = eval (.Name x p') X.env := by rfl)
    (hfew : ((backTo cpos (starEach [e] X.env)).all (fun x => !x.1) && (backToKw cpos (keywordEach [] X.env)).all (fun x => x.1.isSome) && decide ([e].length + ([] : List Keyword).length + (if ([] : List Keyword).isEmpty then 0 else 1) < 30)) = true := by rfl)
    (hline : (apos.endLine == cpos.line) = true := by rfl) (hst : starEach [e] X.env = (false, eval e X.env) :: starEach [] X.env := by rfl) (hplain : (backTo cpos (starEach [] X.env)).any (·.1) = false := by rfl) (hsw : swapsWith (.Call (.Attribute (.Name x p') "append" apos) [e] [] cpos) none pos.line X.env = pure false := by rfl) :
    PS X (.Expr (.Call (.Attribute (.Name x p') "append" apos) [e] [] cpos) pos) (tS W CU ρ (.nx (ρ.set n (reSl s (.lst (ds ++ [d])))))) :=
  ps_imp (ps_expr (pe_bm PySem.F.plainAttrs_list PySem.F.slot_list_append PySem.F.type_list_append mt_append (pe_var hN hv hd hcd) (pa_cons he pa_nil hst) hbase hfew hline hst hplain) hsw) fun D σ H ⟨B, M0, b, P, S, k⟩ => by
    have hm : ρ[n]? = some (.own (.lst ds)) ∨ ρ[n]? = some (.box (.lst ds)) := by
      rcases hs with e | e
      · subst e; exact .inl h0
      · subst e; exact .inr h0
    obtain ⟨a, xs, ha, hxs, _⟩ := S.mut hm
    refine ⟨_, ha, .inl ⟨rfl, xs, SqL.of hxs⟩, B, M0, b, P, S, fun y H1 S1 => ?_⟩
    obtain ⟨a', ys, ha', hys, S2⟩ := S1.mut hm
    rw [ha] at ha'
    have ea : a = a' := V.ref.inj (Option.some.inj (Option.some.inj ha'))
    subst ea
    obtain ⟨M, O⟩ := S2.opn
    have hly := O.p.1.len
    refine ⟨a, ys, y, rfl, rfl, hys, by rw [← hly]; exact Nat.lt_of_lt_of_le hl (by decide), ?_⟩
    have S3 := StV.write (s := s) (d1 := .lst (ds ++ [d])) (o := .lst (ys ++ [y])) S2 h0 (by rcases hs with e | e <;> (subst e; rfl)) ha fun M e q => ⟨_, upd_same, q.1.append ⟨y, [], rfl, q.2.1, rfl⟩⟩
    exact k σ _ (S3.imp S.up fun _ _ q => q.2.2)
/-- xs[i] = e, xs at slot n -/
theorem s_item {s : Sl} {i : Int} {j : Nat} {tp : Pos} (n : Nat) (he : PE X e (tD ρ d)) (hix : PE X e2 (tD ρ (.int i))) (h0 : ρ[n]? = some s) (hs : s = .own (.lst ds) ∨ s = .box (.lst ds)) (hj : ixN ds.length i = some j) (hN : X.N[n]? = some x := by rfl)
    (hv : Vis X.env.scope x := by first | exact Or.inl rfl | exact Or.inr (Or.inl rfl) | exact Or.inr (Or.inr rfl)) (hd : (x == ("__debug__" : Str)) = false := by decide) (hcd : (x == ("__classdict__" : Str)) = false := by decide)
    (hasg : ∀ v, assign (.Subscript (.Name x p') e2 tp) X.env v = (do
      let ov ← holding [v] (eval (.Name x p') X.env)
      let iv ← holding [v, ov] (eval e2 X.env)
      standAt tp
      holding [v, ov, iv] (setItem ov iv v)
      release [v, ov, iv] []) := by intro _; rfl)
    (h1 : swapsWithSole [.Subscript (.Name x p') e2 tp] e pos.line X.env = pure false := by rfl) (h2 : swappedStores [.Subscript (.Name x p') e2 tp] e X.env = pure none := by rfl) (h3 : (assignEach [.Subscript (.Name x p') e2 tp] X.env).map (·.2) = [assign (.Subscript (.Name x p') e2 tp) X.env] := by rfl) :
    PS X (.Assign [.Subscript (.Name x p') e2 tp] e pos) (tS W CU ρ (.nx (ρ.set n (reSl s (.lst (ds.set j d)))))) :=
  ps_imp (ps_asg he (pg_sub (pe_var hN hv hd hcd) hix set_list hasg) h1 h2 h3) fun D σ H ⟨B, M0, b, P, S, k⟩ => ⟨B, M0, b, P, S, fun y H1 S1 => by
    have hm : ρ[n]? = some (.own (.lst ds)) ∨ ρ[n]? = some (.box (.lst ds)) := by
      rcases hs with e | e
      · subst e; exact .inl h0
      · subst e; exact .inr h0
    obtain ⟨a, xs, ha, hxs, _⟩ := S1.mut hm
    refine ⟨_, ha, B, M0, b, _, S1, fun z H2 S2 => ?_⟩
    obtain ⟨a', ys, ha', hys, S3⟩ := S2.mut hm
    rw [ha] at ha'
    have ea : a = a' := V.ref.inj (Option.some.inj (Option.some.inj ha'))
    subst ea
    obtain ⟨M, O⟩ := S3.opn
    have hly := O.p.1.len
    have ez : z = .int i := O.p.2.1
    refine ⟨a, ys, i, j, rfl, ez, hys, by rw [← hly]; exact hj, ?_⟩
    have S4 := StV.write (s := s) (d1 := .lst (ds.set j d)) (o := .lst (ys.set j y)) S3 h0 (by rcases hs with e | e <;> (subst e; rfl)) ha fun M e q => ⟨_, upd_same, q.1.set j q.2.2.1⟩
    exact k σ _ (S4.imp S.up fun _ _ q => q.2.2.2)⟩

/-! ### targets -/
def TgD (g : TG) (ρ : List Sl) (d : D) (ρ' : List Sl) : Prop := ∀ B M0 b P σ H v, StV B M0 b ρ (fun M => At M d v ∧ P M) σ H → Up P → ∀ Q : St → Hp → Prop, (∀ σ' H', StV B M0 b ρ' P σ' H' → Q σ' H') → g v σ H Q
def TgsD (g : TGs) (ρ : List Sl) (ds : List D) (ρ' : List Sl) : Prop := ∀ B M0 b P σ H vs, StV B M0 b ρ (fun M => AtL M ds vs ∧ P M) σ H → Up P → ∀ Q : St → Hp → Prop, (∀ σ' H', StV B M0 b ρ' P σ' H' → Q σ' H') → g vs σ H Q
theorem tg_name {i : Nat} : TgD (gName i) ρ d (ρ.set i (.val d)) := fun B M0 b P σ H v S uP Q k => k _ _ (S.setVal uP i)
theorem tgs_nil : TgsD gNil ρ [] ρ := fun B M0 b P σ H vs S uP Q k => by
  obtain ⟨M, _, q, _⟩ := S.know
  have e : vs = [] := q
  exact ⟨e, k σ H (S.imp uP fun _ _ q => q.2)⟩
theorem tgs_cons {g : TG} {gs : TGs} (h : TgD g ρ d ρ1) (hs : TgsD gs ρ1 ds ρ') : TgsD (gCons g gs) ρ (d :: ds) ρ' := fun B M0 b P σ H vs S uP Q k => by
  obtain ⟨M, _, ⟨v, r, e, _, _⟩, _⟩ := S.know
  subst e
  refine ⟨v, r, rfl, h B M0 b (fun M => AtL M ds r ∧ P M) σ H v (S.imp ((Up.at d v).and ((Up.atL ds r).and uP)) fun M _ q => ?_) ((Up.atL ds r).and uP) _ fun σ' H' S' => hs B M0 b P σ' H' r S' uP Q k⟩
  obtain ⟨⟨v', r', e', a1, a2⟩, q2⟩ := q
  cases e'
  exact ⟨a1, a2, q2⟩
theorem tg_tup {K : PySem.W.Frag} {gs : TGs} (h : TgsD gs ρ ds ρ') (hn : ds.length = n) : TgD (gTup K n gs) ρ (.tup ds) ρ' := fun B M0 b P σ H v S uP Q k => by
  obtain ⟨M, O⟩ := S.opn
  obtain ⟨⟨a, xs, ev, hx, ax⟩, _⟩ := O.p
  have S2 := S.back O (Core.refl O.c.sub) (G := fun M => AtL M ds xs) (Up.atL ds xs) ax
  exact ⟨a, xs, ev, .inl (O.c.sub.rd hx), by rw [← ax.len]; exact hn, h B M0 b P σ H xs (S2.imp ((Up.atL _ _).and uP) fun _ _ q => ⟨q.1, q.2.2⟩) uP Q k⟩
theorem s_asg {tg : Expr} {g : TG} (he : PE X e (tD ρ d)) (hg : PG X tg g) (ht : TgD g ρ d ρ') (h1 : swapsWithSole [tg] e pos.line X.env = pure false := by rfl) (h2 : swappedStores [tg] e X.env = pure none := by rfl) (h3 : (assignEach [tg] X.env).map (·.2) = [assign tg X.env] := by rfl) :
    PS X (.Assign [tg] e pos) (tS W CU ρ (.nx ρ')) := ps_imp (ps_asg he hg h1 h2 h3) fun D σ H ⟨B, M0, b, P, S, k⟩ => ⟨B, M0, b, P, S, fun v H1 S1 => ht B M0 b P σ H1 v S1 S.up _ k⟩
end
end Sd

namespace Sd
open PySem PySem.Spec L2
open PyProof.Rows (envOfC)

/-! ### a def's body keeps its promise -/
def entry (N : List Str) (ds : List D) : List Sl := ds.map .val ++ List.replicate (N.length - ds.length) .any
theorem start_get {N : List Str} {vs : List V} {i : Nat} {v : V} (h : vs[i]? = some v) : (L2.start N vs)[i]? = some (some v) := by
  have hl : i < vs.length := (List.getElem?_eq_some_iff.mp h).1
  unfold L2.start
  rw [List.getElem?_append_left (by simpa using hl), List.getElem?_map, h]; rfl
theorem entry_get {N : List Str} {ds : List D} {i : Nat} {s : Sl} (h : (entry N ds)[i]? = some s) : s = .any ∨ ∃ d, ds[i]? = some d ∧ s = .val d := by
  unfold entry at h
  by_cases hl : i < ds.length
  · rw [List.getElem?_append_left (by simpa using hl), List.getElem?_map] at h
    cases e : ds[i]? with
    | none => rw [e] at h; cases h
    | some d => rw [e] at h; right; exact ⟨d, rfl, (Option.some.inj h).symm⟩
  · rw [List.getElem?_append_right (by simpa using hl)] at h
    left
    have := List.getElem?_replicate (n := N.length - ds.length) (a := Sl.any) (i := i - (ds.map Sl.val).length)
    rw [this] at h
    split at h
    · exact (Option.some.inj h).symm
    · cases h
theorem entry_len {N : List Str} {ds : List D} {vs : List V} (h : ds.length = vs.length) : (entry N ds).length = (L2.start N vs).length := by
  unfold entry L2.start
  simp [h]
theorem StV.start {H M : Hp} {N : List Str} {ds : List D} {vs : List V} (e : Ex M H) (ha : AtL M ds vs) : StV H M none (entry N ds) (fun _ => True) (L2.start N vs) H := by
  refine ⟨⟨M, Core.refl e, trivial, fun i s hi => ?_⟩, Up.true, entry_len ha.len, fun i j d e _ h1 _ => ?_, fun i j d e h1 _ => ?_⟩
  · rcases entry_get hi with z | ⟨d, hd, z⟩
    · subst z; trivial
    · subst z
      obtain ⟨v, hv, av⟩ := ha.get hd
      exact ⟨v, start_get hv, av⟩
  · rcases entry_get h1 with z | ⟨d, _, z⟩ <;> cases z
  · rcases entry_get h1 with z | ⟨d, _, z⟩ <;> cases z
def outF (ρf : List Sl) : Res → Out
  | .ok d => .rt ρf d
  | .ex k => .ex ρf k
/-- the wish of a def about exceptions -/
abbrev wE (E : XK) : WX := fun cls d _ H => E cls d H
section
variable {P : Program} {w : World} {K : PySem.W.Frag} {mg : Str → Option Value} {base : Heap} {x qual : Str} {params : Arguments} {body : List Stmt} {scope : Scope} {dvs : List V} {kws : List (Str × V)} {f CU : Addr} {fd : FuncData} {N ps : List Str} {k : Nat}
theorem okF {F : List D → Res → Prop} (Fn : FunD K x qual params body scope dvs kws f fd) (S : FnScope N ps scope) (hl : ∀ ds r, F ds r → ds.length = ps.length)
    (hb : ∀ (cdv : Value) (A : Around) (outer : List Env) (s : Shared) (H : Hp) (E : XK) (ds : List D) (r : Res), Room k (A.deeper (envOfC qual scope s.heap.objs.size f cdv)) → F ds r →
      ∃ ρf, PSs (cxOf (L2.CX P w) P w K mg base N qual scope f cdv A outer s H E) body (tS (wE E) CU (entry N ds) (outF ρf r))) : FnOk P w K mg base (L2.CX P w) (k + 1) f fd ps (spF CU F) := by
  refine FunD.ok Fn S (fun vs H Q E h => ?_) (fun cdv A outer s H vs Q E hr h => ?_)
  · obtain ⟨ds, r, M, hF, _, ha, _⟩ := h
    rw [← ha.len]; exact hl ds r hF
  · obtain ⟨ds, r, M, hF, e, ha, kk⟩ := h
    obtain ⟨ρf, hp⟩ := hb cdv A outer s H E ds r hr hF
    refine ⟨_, hp, H, M, none, _, StV.start e ha, ?_⟩
    cases r with
    | ok d => exact fun v σ' H' S' => let ⟨M', O⟩ := S'.opn; kk v H' M' O.c O.p.1
    | ex n => exact fun dd σ' H' S' hd => let ⟨M', O⟩ := S'.opn; kk dd H' M' O.c hd
/-- a def that returns a new list of the caller's own -/
theorem okO {F : List D → List D → Prop} (Fn : FunD K x qual params body scope dvs kws f fd) (S : FnScope N ps scope) (hl : ∀ ds r, F ds r → ds.length = ps.length)
    (hb : ∀ (cdv : Value) (A : Around) (outer : List Env) (s : Shared) (H : Hp) (E : XK) (ds rs : List D), Room k (A.deeper (envOfC qual scope s.heap.objs.size f cdv)) → F ds rs →
      ∃ ρf, PSs (cxOf (L2.CX P w) P w K mg base N qual scope f cdv A outer s H E) body (tS (wE E) CU (entry N ds) (.rn ρf rs))) : FnOk P w K mg base (L2.CX P w) (k + 1) f fd ps (spO F) := by
  refine FunD.ok Fn S (fun vs H Q E h => ?_) (fun cdv A outer s H vs Q E hr h => ?_)
  · obtain ⟨ds, r, M, hF, _, ha, _⟩ := h
    rw [← ha.len]; exact hl ds r hF
  · obtain ⟨ds, rs, M, hF, e, ha, kk⟩ := h
    obtain ⟨ρf, hp⟩ := hb cdv A outer s H E ds rs hr hF
    refine ⟨_, hp, H, M, none, _, StV.start e ha, fun p xs σ' H' S' hn => ?_⟩
    obtain ⟨M', O⟩ := S'.opn
    have hp0 : H p = none := by
      cases q : H p with
      | none => rfl
      | some u => exact absurd hn (O.c.there p (by rw [q]; exact fun z => by cases z))
    have mp : M' p = none := O.c.sub.free hn
    refine kk p xs _ M' ⟨fun a u h => ?_, O.c.old, O.c.eq, fun a u h hb => ?_, fun a h => ?_⟩ hp0 mp upd_same O.p.1
    · rw [upd_ne (fun z => by rw [z, mp] at h; cases h)]; exact O.c.sub a u h
    · rw [upd_ne (fun z => by rw [z, hp0] at h; cases h)]; exact O.c.keep a u h hb
    · by_cases z : a = p
      · subst z; rw [upd_same]; exact fun z => by cases z
      · rw [upd_ne z]; exact O.c.there a h
/-- a def whose first argument is a list that it changes -/
def entryB (N : List Str) (bs ds : List D) : List Sl := .box (.lst bs) :: (ds.map .val ++ List.replicate (N.length - (ds.length + 1)) .any)
theorem entryB_get {bs ds : List D} {i : Nat} {s : Sl} (h : (entryB N bs ds)[i]? = some s) : s = .any ∨ (i = 0 ∧ s = .box (.lst bs)) ∨ ∃ j d, i = j + 1 ∧ ds[j]? = some d ∧ s = .val d := by
  unfold entryB at h
  cases i with
  | zero => right; left; exact ⟨rfl, (Option.some.inj (by simpa using h)).symm⟩
  | succ j =>
    rw [List.getElem?_cons_succ] at h
    by_cases hl : j < ds.length
    · rw [List.getElem?_append_left (by simpa using hl), List.getElem?_map] at h
      cases e : ds[j]? with
      | none => rw [e] at h; cases h
      | some d => rw [e] at h; right; right; exact ⟨j, d, rfl, e, (Option.some.inj h).symm⟩
    · rw [List.getElem?_append_right (by simpa using hl)] at h
      left
      have := List.getElem?_replicate (n := N.length - (ds.length + 1)) (a := Sl.any) (i := j - (ds.map Sl.val).length)
      rw [this] at h
      split at h
      · exact (Option.some.inj h).symm
      · cases h
theorem StV.startB {H M : Hp} {bs ds : List D} {ws xs : List V} {a : Addr} (e : Ex M H) (ha : AtL M ds ws) (hx : H a = some (.lst xs)) (mx : M a = none) (ax : AtL M bs xs) :
    StV H M (some a) (entryB N bs ds) (fun _ => True) (L2.start N (.ref a :: ws)) H := by
  refine ⟨⟨M, ⟨e, Ex.refl M, fun _ _ => rfl, fun _ _ h _ => h, fun _ h => h⟩, trivial, fun i s hi => ?_⟩, Up.true, ?_, fun i j d e _ h1 _ => ?_, fun i j d e h1 h2 => ?_⟩
  · rcases entryB_get hi with z | ⟨e1, z⟩ | ⟨j, d, e1, hd, z⟩
    · subst z; trivial
    · subst z; subst e1; exact ⟨a, start_get rfl, mx, ⟨rfl, by rw [hx]; exact fun z => by cases z⟩, xs, hx, ax⟩
    · subst z; subst e1
      obtain ⟨v, hv, av⟩ := ha.get hd
      exact ⟨v, start_get (by simpa using hv), av⟩
  · unfold entryB L2.start
    simp [ha.len]
  · rcases entryB_get h1 with z | ⟨_, z⟩ | ⟨j, d, _, _, z⟩ <;> cases z
  · rcases entryB_get h1 with z | ⟨e1, z⟩ | ⟨j, d, _, _, z⟩
    · cases z
    · rcases entryB_get h2 with z | ⟨e2, z⟩ | ⟨j, d, _, _, z⟩
      · cases z
      · rw [e1, e2]
      · cases z
    · cases z
theorem okB {F : List D → List D → List D → D → Prop} (Fn : FunD K x qual params body scope dvs kws f fd) (S : FnScope N ps scope) (hl : ∀ bs ds cs d, F bs ds cs d → ds.length + 1 = ps.length)
    (hb : ∀ (cdv : Value) (A : Around) (outer : List Env) (s : Shared) (H : Hp) (E : XK) (bs ds cs : List D) (d : D), Room k (A.deeper (envOfC qual scope s.heap.objs.size f cdv)) → F bs ds cs d →
      ∃ ρf, PSs (cxOf (L2.CX P w) P w K mg base N qual scope f cdv A outer s H E) body (tS (wE E) CU (entryB N bs ds) (.rt (.box (.lst cs) :: ρf) d))) : FnOk P w K mg base (L2.CX P w) (k + 1) f fd ps (spB F) := by
  refine FunD.ok Fn S (fun vs H Q E h => ?_) (fun cdv A outer s H vs Q E hr h => ?_)
  · obtain ⟨a, ws, bs, ds, cs, d, xs, M, e, _, _, hF, _, _, ha, _⟩ := h
    rw [e, List.length_cons, ← ha.len]; exact hl bs ds cs d hF
  · obtain ⟨a, ws, bs, ds, cs, d, xs, M, e, hx, mx, hF, ex, ax, ha, kk⟩ := h
    subst e
    obtain ⟨ρf, hp⟩ := hb cdv A outer s H E bs ds cs d hr hF
    refine ⟨_, hp, H, M, some a, _, StV.startB ex ha hx mx ax, fun v σ' H' S' => ?_⟩
    obtain ⟨M', O⟩ := S'.opn
    obtain ⟨a', h1, h2, h3, ys, h4, h5⟩ := O.s 0 _ rfl
    have ea : a = a' := Option.some.inj h3.1
    subst ea
    exact kk v H' M' ys ⟨O.c.sub, O.c.old, O.c.eq, fun x o h hne => O.c.keep x o h fun z => hne (Option.some.inj z).symm, O.c.there⟩ h4 h5 O.p.1
end

/-! ### calls that change a list of the caller's (slot n) -/
theorem StV.afterB {B M0 : Hp} {b : Option Addr} {ρ : List Sl} {P G : Hp → Prop} {σ : St} {H H' M M' : Hp} {n : Nat} {s : Sl} {bs cs : List D} {a : Addr} {ys : List V}
    (S : StV B M0 b ρ P σ H) (O : Opn B M0 b ρ P σ H M) (h0 : ρ[n]? = some s) (hs : s = .own (.lst bs) ∨ s = .box (.lst bs)) (ha : σ[n]? = some (some (.ref a)))
    (c : CoreB H M a M' H') (hy : H' a = some (.lst ys)) (ay : AtL M' cs ys) (uG : Up G) (g : G M') : StV B M0 b (ρ.set n (reSl s (.lst cs))) (fun M => G M ∧ P M) σ H' := by
  have hm : isMut s = true := by rcases hs with e | e <;> (subst e; rfl)
  have ma : M a = none ∧ (B a = none ∨ b = some a) ∧ (∃ o, H a = some o) := by
    have k := O.s n _ h0
    rcases hs with e | e
    · subst e; obtain ⟨a', e1, e2, e3, e4⟩ := k; rw [ha] at e1; cases e1; exact ⟨e2, .inl e3, e4.there⟩
    · subst e; obtain ⟨a', e1, e2, e3, e4⟩ := k; rw [ha] at e1; cases e1; exact ⟨e2, .inr e3.1, e4.there⟩
  obtain ⟨ma1, ma2, o0, ho0⟩ := ma
  have ma' : M' a = none := (c.eq a (by rw [ho0]; exact fun z => by cases z)).trans ma1
  have off : ∀ (j : Nat) (t : Sl) (a' : Addr), j ≠ n → ρ[j]? = some t → isMut t = true → σ[j]? = some (some (.ref a')) → a' ≠ a := fun j t a' hj ht hmt ha' z => by
    subst z
    have k := O.s n _ h0
    have k2 := O.s j _ ht
    rcases hs with e | e
    · subst e
      obtain ⟨a1, e1, _, e2, _⟩ := k
      rw [ha] at e1; cases e1
      cases t with
      | any => cases hmt
      | val d => cases hmt
      | own d' => exact S.apart j n _ _ hj ht h0 (ha'.trans ha.symm)
      | box d' =>
        obtain ⟨a2, f1, _, f2, _⟩ := k2
        rw [ha'] at f1; cases f1
        exact f2.2 e2
    · subst e
      obtain ⟨a1, e1, _, e2, _⟩ := k
      rw [ha] at e1; cases e1
      cases t with
      | any => cases hmt
      | val d => cases hmt
      | own d' =>
        obtain ⟨a2, f1, _, f2, _⟩ := k2
        rw [ha'] at f1; cases f1
        exact e2.2 f2
      | box d' => exact hj (S.one j n _ _ ht h0)
  refine ⟨⟨M', ⟨c.sub, O.c.old.trans c.old, fun x hx => (c.eq x (O.c.there x hx)).trans (O.c.eq x hx), fun x u hx hb => ?_, fun x hx => c.there x (O.c.there x hx)⟩, ⟨g, S.up _ _ c.old O.p⟩, fun j t hj => ?_⟩, fun A A' e x => ⟨uG _ _ e x.1, S.up _ _ e x.2⟩, by rw [List.length_set]; exact S.len, fun j k d e hjk h1 h2 => ?_, fun j k d e h1 h2 => ?_⟩
  · have : x ≠ a := fun z => by
      subst z
      rcases ma2 with z | z
      · rw [z] at hx; cases hx
      · exact hb z
    exact c.keep x u (O.c.keep x u hx hb) this
  · rcases set_at hj with ⟨e1, e2, _⟩ | ⟨e1, e2⟩
    · subst e1; subst e2
      have k := O.s j _ h0
      rcases hs with e | e
      · subst e; obtain ⟨a', e1, e2, e3, _⟩ := k; rw [ha] at e1; cases e1; exact ⟨a, ha, ma', e3, ys, hy, ay⟩
      · subst e; obtain ⟨a', e1, e2, e3, _⟩ := k; rw [ha] at e1; cases e1; exact ⟨a, ha, ma', e3, ys, hy, ay⟩
    · have k := O.s j _ e2
      cases t with
      | any => trivial
      | val d => obtain ⟨v, g1, g2⟩ := k; exact ⟨v, g1, g2.up c.old⟩
      | own d =>
        obtain ⟨a', f1, f2, f3, f4⟩ := k
        obtain ⟨u, hu⟩ := f4.there
        exact ⟨a', f1, (c.eq a' (by rw [hu]; exact fun z => by cases z)).trans f2, f3, (f4.up c.old).on ((c.keep a' u hu (off j _ a' e1 e2 rfl f1)).trans hu.symm)⟩
      | box d =>
        obtain ⟨a', f1, f2, f3, f4⟩ := k
        obtain ⟨u, hu⟩ := f4.there
        exact ⟨a', f1, (c.eq a' (by rw [hu]; exact fun z => by cases z)).trans f2, f3, (f4.up c.old).on ((c.keep a' u hu (off j _ a' e1 e2 rfl f1)).trans hu.symm)⟩
  · have g : ∀ (i : Nat) (d : D), (ρ.set n (reSl s (.lst cs)))[i]? = some (.own d) → ∃ d', ρ[i]? = some (.own d') := fun i d hi => by
      rcases set_at hi with ⟨e1, e2, _⟩ | ⟨_, e2⟩
      · subst e1
        rcases hs with e | e
        · subst e; exact ⟨_, h0⟩
        · subst e; cases e2
      · exact ⟨d, e2⟩
    obtain ⟨d', h1'⟩ := g j d h1
    obtain ⟨e', h2'⟩ := g k e h2
    exact S.apart j k d' e' hjk h1' h2'
  · have g : ∀ (i : Nat) (d : D), (ρ.set n (reSl s (.lst cs)))[i]? = some (.box d) → ∃ d', ρ[i]? = some (.box d') := fun i d hi => by
      rcases set_at hi with ⟨e1, e2, _⟩ | ⟨_, e2⟩
      · subst e1
        rcases hs with e | e
        · subst e; cases e2
        · subst e; exact ⟨_, h0⟩
      · exact ⟨d, e2⟩
    obtain ⟨d', h1'⟩ := g j d h1
    obtain ⟨e', h2'⟩ := g k e h2
    exact S.one j k d' e' h1' h2'
section
variable {X : Cx} {W : WX} {CU : Addr} {ρ ρ1 : List Sl} {d : D} {bs cs ds : List D} {F : List D → List D → List D → D → Prop} {k n : Nat} {f : Addr} {fd : FuncData} {ps : List Str} {x y : Str} {p q pos : Pos} {e : Expr} {es : List Expr} {s : Sl}
/-- f(xs, e, ..): xs the list at slot n, that f changes -/
theorem x_callB (n : Nat) (G : FnOk X.prog X.w X.K X.mg X.base (L2.CX X.prog X.w) k f fd ps (spB F)) (hr : Room k X.A) (hm : X.mg x = some (.ref f)) (hk : PySem.W.keepIn X.K (.ref f) = true) (hb : Binds X.K fd ps [])
    (ha : PA X es (tA' ρ ds)) (h0 : ρ[n]? = some s) (hs : s = .own (.lst bs) ∨ s = .box (.lst bs)) (hF : F bs ds cs d) (hN : X.N[n]? = some y := by rfl)
    (hv : Vis X.env.scope y := by first | exact Or.inl rfl | exact Or.inr (Or.inl rfl) | exact Or.inr (Or.inr rfl)) (hdy : (y == ("__debug__" : Str)) = false := by decide) (hcd : (y == ("__classdict__" : Str)) = false := by decide)
    (hg : Gl X x := by rfl) (hdb : (x == ("__debug__" : Str)) = false := by decide) (he : starEach (.Name y q :: es) X.env = (false, eval (.Name y q) X.env) :: starEach es X.env := by rfl) (hpl : (backTo pos (starEach es X.env)).any (·.1) = false := by rfl) :
    PE X (.Call (.Name x p) (.Name y q :: es) [] pos) (tG ρ (ρ.set n (reSl s (.lst cs))) d) :=
  pe_imp (pe_call (E := E0) (dvs := []) G hr hg hm hk hb .nil passL (pa_cons (pe_var hN hv hdy hcd) ha he) hdb he hpl) fun σ H Q ⟨B, M0, b, P, S, kk⟩ => by
    have hm' : ρ[n]? = some (.own (.lst bs)) ∨ ρ[n]? = some (.box (.lst bs)) := by
      rcases hs with e | e
      · subst e; exact .inl h0
      · subst e; exact .inr h0
    obtain ⟨a, xs, ha', hxs, _⟩ := S.mut hm'
    refine ⟨_, ha', B, M0, b, P, S, fun ws H1 S1 => ?_⟩
    obtain ⟨a', ys, ha'', hys, S2⟩ := S1.mut hm'
    rw [ha'] at ha''
    have ea : a = a' := V.ref.inj (Option.some.inj (Option.some.inj ha''))
    subst ea
    obtain ⟨M, O⟩ := S2.opn
    have ma : M a = none := by
      rcases hm' with h | h
      · obtain ⟨a1, e1, e2, _⟩ := O.s n _ h; rw [ha'] at e1; cases e1; exact e2
      · obtain ⟨a1, e1, e2, _⟩ := O.s n _ h; rw [ha'] at e1; cases e1; exact e2
    refine ⟨a, ws, bs, ds, cs, d, ys, M, by rw [List.append_nil], hys, ma, hF, O.c.sub, O.p.1, O.p.2.1, fun v H' M' zs c hz az av => ?_⟩
    exact kk v H' ((S2.afterB O h0 hs ha' c hz az (Up.at d v) av).imp ((Up.at d v).and S.up) fun _ _ q => ⟨q.1, q.2.2.2⟩)
end
end Sd

namespace Sd
open PySem PySem.Spec L2
open PyProof.Rows (envOfC)

/-! ### what is walked -/
/-- while G stands of the core, J gives ys -/
def GoodIt (J : It) (ys : List D) (G : Hp → Prop) : Prop := ∀ M H, G M → Ex M H →
  (∀ (i : Nat) d, ys[i]? = some d → J.go i H ∧ ∀ x H', J.yld i H x H' → ∃ M', Core H M none M' H' ∧ At M' d x) ∧ J.stop ys.length H
def tI (ρ : List Sl) (ys : List D) : TI := fun σ H R => ∃ B M0 b P, StV B M0 b ρ P σ H ∧ ∀ J H2 G, StV B M0 b ρ (fun M => G M ∧ P M) σ H2 → Up G → GoodIt J ys G → R J H2
def loopOut : Out → Prop
  | .rt _ _ => True
  | .ex _ _ => True
  | .rn _ _ => True
  | _ => False
section
variable {X : Cx} {W : WX} {CU : Addr} {ρ ρ' ρ1 : List Sl} {d : D} {ys : List D} {tg it e : Expr} {pos : Pos} {o : Out} {body : List Stmt} {g : TG} {R R1 : Nat → List Sl}
theorem pi_imp {w w' : TI} (h : PI X tg it w) (k : ∀ σ H R, w' σ H R → w σ H R) : PI X tg it w' := ⟨fun pins s σ H R I q => h.run pins s σ H R I (k σ H R q)⟩
theorem i_tup (h : PE X it (tD ρ (.tup ys))) : PI X tg it (tI ρ ys) := pi_imp (pi_tup h) fun σ H R ⟨B, M0, b, P, S, k⟩ => ⟨B, M0, b, P, S, fun x H1 S1 => by
  obtain ⟨M, O⟩ := S1.opn
  obtain ⟨⟨a, xs, ex, hx, ax⟩, _⟩ := O.p
  have uG : Up (fun M => Rd M a (.tup xs) ∧ AtL M ys xs) := fun _ _ e q => ⟨e.rd q.1, q.2.up e⟩
  refine ⟨a, ex, ⟨xs, .inl (O.c.sub.rd hx)⟩, k _ H1 (fun M => Rd M a (.tup xs) ∧ AtL M ys xs) ((S1.back O (Core.refl O.c.sub) uG ⟨hx, ax⟩).imp (uG.and S.up) fun _ _ q => ⟨q.1, q.2.2⟩) uG fun M' H' q e => ⟨fun i d hd => ?_, xs, .inl (e.rd q.1), by rw [← q.2.len]; exact Nat.le_refl _⟩⟩
  obtain ⟨x', hx', _⟩ := q.2.get hd
  refine ⟨⟨xs, x', .inl (e.rd q.1), hx'⟩, fun y H'' z => ?_⟩
  obtain ⟨z1, z2⟩ := z
  subst z1
  exact ⟨M', Core.refl e, q.2.all hd (z2 xs (.inl (e.rd q.1)))⟩⟩
theorem i_lst (h : PE X it (tD ρ (.lst ys))) : PI X tg it (tI ρ ys) := pi_imp (pi_list h) fun σ H R ⟨B, M0, b, P, S, k⟩ => ⟨B, M0, b, P, S, fun x H1 S1 => by
  obtain ⟨M, O⟩ := S1.opn
  obtain ⟨⟨a, xs, ex, hx, ax⟩, _⟩ := O.p
  have uG : Up (fun M => M a = some (.lst xs) ∧ AtL M ys xs) := fun _ _ e q => ⟨e _ _ q.1, q.2.up e⟩
  refine ⟨a, ex, ⟨xs, SqL.of (O.c.sub _ _ hx)⟩, k _ H1 (fun M => M a = some (.lst xs) ∧ AtL M ys xs) ((S1.back O (Core.refl O.c.sub) uG ⟨hx, ax⟩).imp (uG.and S.up) fun _ _ q => ⟨q.1, q.2.2⟩) uG fun M' H' q e => ⟨fun i d hd => ?_, xs, SqL.of (e _ _ q.1), by rw [← q.2.len]; exact Nat.le_refl _⟩⟩
  obtain ⟨x', hx', _⟩ := q.2.get hd
  refine ⟨⟨xs, x', SqL.of (e _ _ q.1), hx'⟩, fun y H'' z => ?_⟩
  obtain ⟨z1, z2⟩ := z
  subst z1
  exact ⟨M', Core.refl e, q.2.all hd (z2 xs (SqL.of (e _ _ q.1)))⟩⟩
/-- what is handed in -/
theorem i_arg {ns : List Int} (h : PE X it (tD ρ (.arg X.K ns))) : PI X tg it (tI ρ (dInts ns)) := pi_imp (pi_list h) fun σ H R ⟨B, M0, b, P, S, k⟩ => ⟨B, M0, b, P, S, fun x H1 S1 => by
  obtain ⟨M, O⟩ := S1.opn
  obtain ⟨⟨a, ex, hx⟩, _⟩ := O.p
  have up : ∀ {M M' : Hp}, Ex M M' → SqL X.K M a (ns.map V.int) → SqL X.K M' a (ns.map V.int) := fun e q => q.imp e.rd id
  have uG : Up (fun M => SqL X.K M a (ns.map V.int)) := fun _ _ e q => up e q
  refine ⟨a, ex, ⟨_, up O.c.sub hx⟩, k _ H1 (fun M => SqL X.K M a (ns.map V.int)) ((S1.back O (Core.refl O.c.sub) uG hx).imp (uG.and S.up) fun _ _ q => ⟨q.1, q.2.2⟩) uG fun M' H' q e => ⟨fun i d hd => ?_, _, up e q, by simp⟩⟩
  have hi : i < ns.length := by have := (List.getElem?_eq_some_iff.mp hd).1; simpa using this
  rw [List.getElem?_map, List.getElem?_eq_getElem hi] at hd
  have ed : d = .int ns[i] := (Option.some.inj hd).symm
  have hv : (ns.map V.int)[i]? = some (.int ns[i]) := by rw [List.getElem?_map, List.getElem?_eq_getElem hi]; rfl
  refine ⟨⟨_, _, up e q, hv⟩, fun y H'' z => ?_⟩
  obtain ⟨z1, z2⟩ := z
  subst z1
  have := z2 _ (up e q)
  rw [hv] at this
  have ey := Option.some.inj this
  exact ⟨M', Core.refl e, by rw [ed, ← ey]; rfl⟩⟩
/-- lo, lo + c, .. -/
def rngD (lo c : Int) (n : Nat) : List D := (List.range n).map fun (i : Nat) => D.int (lo + (i : Int) * c)
theorem rngD_len {lo c : Int} {n : Nat} : (rngD lo c n).length = n := by unfold rngD; simp
theorem rngD_get {lo c : Int} {n i : Nat} {d : D} (h : (rngD lo c n)[i]? = some d) : i < n ∧ d = .int (lo + (i : Int) * c) := by
  have hl : i < n := by have := (List.getElem?_eq_some_iff.mp h).1; rwa [rngD_len] at this
  unfold rngD at h
  rw [List.getElem?_map, List.getElem?_range hl] at h
  exact ⟨hl, (Option.some.inj h).symm⟩
theorem good_rng {lo : Int} {n : Nat} : GoodIt (Itr lo n) (rngD lo 1 n) (fun _ => True) := fun M H _ e => ⟨fun i d hd => by
  obtain ⟨h1, h2⟩ := rngD_get hd
  refine ⟨h1, fun x H' z => ?_⟩
  obtain ⟨z1, z2⟩ := z
  subst z1
  refine ⟨M, Core.refl e, ?_⟩
  rw [h2, z2, Int.mul_one]; rfl, by rw [rngD_len]; exact Nat.le_refl _⟩
theorem good_rngC {lo c : Int} {n : Nat} : GoodIt (Itc lo c n) (rngD lo c n) (fun _ => True) := fun M H _ e => ⟨fun i d hd => by
  obtain ⟨h1, h2⟩ := rngD_get hd
  refine ⟨h1, fun x H' z => ?_⟩
  obtain ⟨z1, z2⟩ := z
  subst z1
  refine ⟨M, Core.refl e, ?_⟩
  rw [h2, z2]; rfl, by rw [rngD_len]; exact Nat.le_refl _⟩
theorem StV.tru {B M0 : Hp} {b : Option Addr} {P : Hp → Prop} {σ : St} {H : Hp} (S : StV B M0 b ρ P σ H) : StV B M0 b ρ (fun M => True ∧ P M) σ H := S.imp (Up.true.and S.up) fun _ _ q => ⟨trivial, q⟩
theorem atL_1 {M : Hp} {d1 : D} {vs : List V} (h : AtL M [d1] vs) : ∃ x, vs = [x] ∧ At M d1 x := by
  obtain ⟨x, r, e, h1, h2⟩ := h
  cases h2
  exact ⟨x, e, h1⟩
theorem atL_2 {M : Hp} {d1 d2 : D} {vs : List V} (h : AtL M [d1, d2] vs) : ∃ x y, vs = [x, y] ∧ At M d1 x ∧ At M d2 y := by
  obtain ⟨x, r, e, h1, h2⟩ := h
  obtain ⟨y, e2, h3⟩ := atL_1 h2
  exact ⟨x, y, by rw [e, e2], h1, h3⟩
theorem atL_3 {M : Hp} {d1 d2 d3 : D} {vs : List V} (h : AtL M [d1, d2, d3] vs) : ∃ x y z, vs = [x, y, z] ∧ At M d1 x ∧ At M d2 y ∧ At M d3 z := by
  obtain ⟨x, r, e, h1, h2⟩ := h
  obtain ⟨y, z, e2, h3, h4⟩ := atL_2 h2
  exact ⟨x, y, z, by rw [e, e2], h1, h3, h4⟩
theorem i_rng1 {a : Expr} {n : Int} {p : Pos} (hm : X.mg "range" = none) (ha : PE X a (tD ρ (.int n))) (hn : n ≤ 100000) (hn0 : -100000 ≤ n) (hg : Gl X "range" := by rfl) (hs : starEach [a] X.env = (false, eval a X.env) :: starEach [] X.env := by rfl) (hs1 : starEach [a] X.env = [(false, eval a X.env)] := by rfl) :
    PI X tg (.Call (.Name "range" p) [a] [] pos) (tI ρ (rngD 0 1 n.toNat)) := pi_imp (pi_range1 hg hm (a_cons ha a_nil hs) hs1) fun σ H R ⟨B, M0, b, P, S, k⟩ => ⟨B, M0, b, P, S, fun vs H1 S1 => by
  obtain ⟨M, _, q, _⟩ := S1.know
  obtain ⟨x, e, h⟩ := atL_1 q
  have ex : x = .int n := h
  subst ex
  exact ⟨n, e, by omega, by omega, k _ H1 _ (S1.imp (Up.true.and S.up) fun _ _ q => ⟨trivial, q.2⟩) Up.true good_rng⟩⟩
theorem i_rng2 {a c : Expr} {lo n : Int} {p : Pos} (hm : X.mg "range" = none) (ha : PE X a (tD ρ (.int lo))) (hc : PE X c (tD ρ (.int n))) (h1 : -100000 ≤ lo ∧ lo ≤ 100000 ∧ -100000 ≤ n ∧ n ≤ 100000) (hg : Gl X "range" := by rfl)
    (hs : starEach [a, c] X.env = (false, eval a X.env) :: starEach [c] X.env := by rfl) (hs0 : starEach [c] X.env = (false, eval c X.env) :: starEach [] X.env := by rfl) (hs1 : starEach [a, c] X.env = [(false, eval a X.env), (false, eval c X.env)] := by rfl) (hs2 : starEach [c] X.env = [(false, eval c X.env)] := by rfl) :
    PI X tg (.Call (.Name "range" p) [a, c] [] pos) (tI ρ (rngD lo 1 (n - lo).toNat)) := pi_imp (pi_range2 hg hm (a_cons ha (a_cons hc a_nil hs0) hs) hs1 hs2) fun σ H R ⟨B, M0, b, P, S, k⟩ => ⟨B, M0, b, P, S, fun vs H1 S1 => by
  obtain ⟨M, _, q, _⟩ := S1.know
  obtain ⟨x, y, e, hx, hy⟩ := atL_2 q
  have ex : x = .int lo := hx
  have ey : y = .int n := hy
  subst ex; subst ey
  exact ⟨lo, n, e, by omega, k _ H1 _ (S1.imp (Up.true.and S.up) fun _ _ q => ⟨trivial, q.2⟩) Up.true good_rng⟩⟩
/-- range(a, b, -1) -/
theorem i_rng3 {a c f : Expr} {i j : Int} {p : Pos} (hm : X.mg "range" = none) (ha : PE X a (tD ρ (.int i))) (hc : PE X c (tD ρ (.int j))) (hf : PE X f (tD ρ (.int (-1)))) (h1 : -100000 ≤ i ∧ i ≤ 100000 ∧ -100000 ≤ j ∧ j ≤ 100000) {w : TI} (hw : PI X tg (.Call (.Name "range" p) [a, c, f] [] pos) (iRng3 (tA' ρ [.int i, .int j, .int (-1)]))) :
    PI X tg (.Call (.Name "range" p) [a, c, f] [] pos) (tI ρ (rngD i (-1) (i - j).toNat)) := pi_imp hw fun σ H R ⟨B, M0, b, P, S, k⟩ => ⟨B, M0, b, P, S, fun vs H1 S1 => by
  obtain ⟨M, _, q, _⟩ := S1.know
  obtain ⟨x, y, z, e, hx, hy, hz⟩ := atL_3 q
  have ex : x = .int i := hx
  have ey : y = .int j := hy
  have ez : z = .int (-1) := hz
  subst ex; subst ey; subst ez
  exact ⟨i, j, -1, _, e, RgC.neg (by omega) (by omega) (by omega) (by omega), k _ H1 _ (S1.imp (Up.true.and S.up) fun _ _ q => ⟨trivial, q.2⟩) Up.true good_rngC⟩⟩

/-! ### for -/
/-- what the body of a loop reaches: the first m turns go on -/
theorem s_forG (m : Nat) (hm : m ≤ ys.length) (hp : PassesOwn (model X.prog X.w) X.A X.env X.xe) (hc : X.calm = true) (hi : PI X tg it (tI ρ ys)) (hg : PG X tg g) (h0 : SubL (R 0) ρ) (ht : ∀ (i : Nat) d, ys[i]? = some d → i ≤ m → TgD g (R i) d (R1 i))
    (hb : ∀ (i : Nat) d, ys[i]? = some d → i < m → PSs X body (tS W CU (R1 i) (.nx (R (i + 1))))) (hl : (m = ys.length ∧ o = .nx (R m)) ∨ (m < ys.length ∧ loopOut o ∧ PSs X body (tS W CU (R1 m) o)))
    (hs : ∀ x, foldedSetIterable it X.env x = pure x := by intro _; rfl) : PS X (.For tg it body [] pos) (tS W CU ρ o) := by
  have hB : PSs X body (fun D σ H => ∃ i, (i < m ∧ i < ys.length ∧ tS W CU (R1 i) (.nx (R (i + 1))) D σ H) ∨ (m < ys.length ∧ i = m ∧ tS W CU (R1 m) o D σ H)) := by
    refine ⟨fun pins s σ H D I h => ?_⟩
    obtain ⟨i, ⟨h1, h2, h3⟩ | ⟨h1, h2, h3⟩⟩ := h
    · exact (hb i _ (List.getElem?_eq_getElem h2) h1).run pins s σ H D I h3
    · rcases hl with ⟨e, _⟩ | ⟨_, _, hh⟩
      · omega
      · exact hh.run pins s σ H D I h3
  refine ps_imp (ps_for hp hc hi hg hB hs) fun D σ H ⟨B, M0, b, P, S, k⟩ => ⟨B, M0, b, P, S, fun J H1 G S1 uG good => ?_⟩
  refine ⟨fun i q σ H => q = ys.length - i ∧ i ≤ m ∧ StV B M0 b (R i) (fun M => G M ∧ P M) σ H, ⟨_, rfl, Nat.zero_le _, S1.sub h0.sub⟩, ?_⟩
  rintro i q σ H2 ⟨rfl, him, S2⟩
  obtain ⟨M, O⟩ := S2.opn
  obtain ⟨g1, g2⟩ := good M H2 O.p.1 O.c.sub
  by_cases hlt : i < ys.length
  · have hy : ys[i]? = some ys[i] := List.getElem?_eq_getElem hlt
    obtain ⟨j1, j2⟩ := g1 i _ hy
    refine .inr ⟨j1, fun σ' H' => i < m ∧ StV B M0 b (R (i + 1)) (fun M => G M ∧ P M) σ' H', fun σ' H' p' => ⟨ys.length - (i + 1), by omega, rfl, p'.1, p'.2⟩, fun x H3 hy3 => ?_⟩
    obtain ⟨M3, c3, a3⟩ := j2 x H3 hy3
    have S3 := S2.back O c3 (Up.at ys[i] x) a3
    refine ht i _ hy him B M0 b _ σ H3 x S3 S2.up _ fun σ4 H4 S4 => ?_
    by_cases hlm : i < m
    · exact ⟨i, .inl ⟨hlm, hlt, B, M0, b, _, S4, fun σ5 H5 S5 => ⟨hlm, S5⟩⟩⟩
    · have e : i = m := by omega
      subst e
      rcases hl with ⟨e, _⟩ | ⟨h1, h2, h3⟩
      · omega
      · refine ⟨i, .inr ⟨hlt, rfl, B, M0, b, _, S4, ?_⟩⟩
        cases o with
        | nx _ => exact h2.elim
        | bk _ => exact h2.elim
        | ct _ => exact h2.elim
        | rt ρ' d => exact fun v σ' H' S' => k v σ' H' (S'.imp ((Up.at d v).and S.up) fun _ _ q => ⟨q.1, q.2.2⟩)
        | ex ρ' n => exact fun dd σ' H' S' => k dd σ' H' (S'.imp S.up fun _ _ q => q.2)
        | rn ρ' ds => exact fun p xs σ' H' S' => k p xs σ' H' (S'.imp ((Up.atL ds xs).and S.up) fun _ _ q => ⟨q.1, q.2.2⟩)
  · have e : i = ys.length := by omega
    subst e
    rcases hl with ⟨e, e2⟩ | ⟨h1, _⟩
    · subst e2
      subst e
      exact .inl ⟨g2, k σ H2 (S2.imp S.up fun _ _ q => q.2)⟩
    · omega
theorem s_for (hp : PassesOwn (model X.prog X.w) X.A X.env X.xe) (hc : X.calm = true) (hi : PI X tg it (tI ρ ys)) (hg : PG X tg g) (R R1 : Nat → List Sl) (h0 : SubL (R 0) ρ) (ht : ∀ (i : Nat) d, ys[i]? = some d → TgD g (R i) d (R1 i))
    (hb : ∀ (i : Nat) d, ys[i]? = some d → PSs X body (tS W CU (R1 i) (.nx (R (i + 1))))) (hs : ∀ x, foldedSetIterable it X.env x = pure x := by intro _; rfl) : PS X (.For tg it body [] pos) (tS W CU ρ (.nx (R ys.length))) :=
  s_forG ys.length (Nat.le_refl _) hp hc hi hg h0 (fun i d h _ => ht i d h) (fun i d h _ => hb i d h) (.inl ⟨rfl, rfl⟩) hs
/-- while: n turns -/
theorem s_while {c : Expr} (hp : PassesOwn (model X.prog X.w) X.A X.env X.xe) (R : Nat → List Sl) (n : Nat) (h0 : SubL (R 0) ρ) (hc : ∀ i, i ≤ n → PT X c (tT (R i) (decide (i < n)))) (hb : ∀ i, i < n → PSs X body (tS W CU (R i) (.nx (R (i + 1))))) :
    PS X (.While c body [] pos) (tS W CU ρ (.nx (R n))) := by
  have hC : PT X c (fun σ H Q => ∃ i, i ≤ n ∧ tT (R i) (decide (i < n)) σ H Q) := ⟨fun pins s σ H Q I ⟨i, hi, h⟩ => (hc i hi).run pins s σ H Q I h⟩
  have hB : PSs X body (fun D σ H => ∃ i, i < n ∧ tS W CU (R i) (.nx (R (i + 1))) D σ H) := ⟨fun pins s σ H D I ⟨i, hi, h⟩ => (hb i hi).run pins s σ H D I h⟩
  refine ps_imp (ps_while hp hC hB) fun D σ H ⟨B, M0, b, P, S, k⟩ => ?_
  refine ⟨fun q σ H => ∃ i, i ≤ n ∧ q = n - i ∧ StV B M0 b (R i) P σ H, ⟨n, 0, Nat.zero_le _, rfl, S.sub h0.sub⟩, ?_⟩
  rintro q σ H2 ⟨i, hi, rfl, S2⟩
  refine ⟨i, hi, B, M0, b, P, S2, fun H3 S3 => ?_⟩
  by_cases h : i < n
  · rw [decide_eq_true h]
    refine iteT ⟨fun σ' H' => StV B M0 b (R (i + 1)) P σ' H', fun σ' H' S' => ⟨n - (i + 1), by omega, i + 1, h, rfl, S'⟩, i, h, B, M0, b, P, S3, fun σ' H' S' => S'⟩
  · rw [decide_eq_false h]
    have e : i = n := by omega
    subst e
    exact iteF (k σ H3 S3)
end
/-! ### comprehensions -/
theorem wipe_at {σ : St} {i : Nat} : ∀ {vs : List Nat}, (wipe σ vs)[i]? = if i ∈ vs then σ[i]?.map (fun _ => none) else σ[i]?
  | [] => by simp [wipe]
  | v :: vs => by
    unfold wipe
    by_cases e : i = v
    · subst e
      rw [if_pos List.mem_cons_self]
      by_cases hl : i < σ.length
      · rw [List.getElem?_set_self (by rw [wipe_length]; exact hl), List.getElem?_eq_getElem hl]; rfl
      · rw [List.getElem?_eq_none (by rw [List.length_set, wipe_length]; omega), List.getElem?_eq_none (by omega)]; rfl
    · rw [List.getElem?_set_ne (Ne.symm e), wipe_at (vs := vs)]
      by_cases h : i ∈ vs
      · rw [if_pos h, if_pos (List.mem_cons_of_mem _ h)]
      · rw [if_neg h, if_neg (by simp only [List.mem_cons, not_or]; exact ⟨e, h⟩)]
theorem wipe_eq {σ σ' : St} {vs : List Nat} (hl : σ'.length = σ.length) (h : ∀ i, i ∉ vs → σ'[i]? = σ[i]?) : wipe σ' vs = wipe σ vs := by
  apply List.ext_getElem?
  intro i
  rw [wipe_at, wipe_at]
  by_cases e : i ∈ vs
  · rw [if_pos e, if_pos e]
    by_cases hi : i < σ.length
    · rw [List.getElem?_eq_getElem hi, List.getElem?_eq_getElem (by omega)]; rfl
    · rw [List.getElem?_eq_none (by omega), List.getElem?_eq_none (by omega)]
  · rw [if_neg e, if_neg e, h i e]
theorem wipe_wipe {σ : St} {vs : List Nat} : wipe (wipe σ vs) vs = wipe σ vs := by
  apply List.ext_getElem?
  intro i
  rw [wipe_at, wipe_at]
  by_cases e : i ∈ vs
  · rw [if_pos e, if_pos e]
    cases σ[i]? <;> rfl
  · rw [if_neg e, if_neg e]
/-- a target's stores lie in vs -/
def TgV (g : TG) (vs : List Nat) (ρ : List Sl) (d : D) (ρ' : List Sl) : Prop := ∀ B M0 b P σ H v, StV B M0 b ρ (fun M => At M d v ∧ P M) σ H → Up P → ∀ Q : St → Hp → Prop,
  (∀ σ' H', StV B M0 b ρ' P σ' H' → (∀ i, i ∉ vs → σ'[i]? = σ[i]?) → σ'.length = σ.length → Q σ' H') → g v σ H Q
def TgsV (g : TGs) (vs : List Nat) (ρ : List Sl) (ds : List D) (ρ' : List Sl) : Prop := ∀ B M0 b P σ H ws, StV B M0 b ρ (fun M => AtL M ds ws ∧ P M) σ H → Up P → ∀ Q : St → Hp → Prop,
  (∀ σ' H', StV B M0 b ρ' P σ' H' → (∀ i, i ∉ vs → σ'[i]? = σ[i]?) → σ'.length = σ.length → Q σ' H') → g ws σ H Q
section
variable {X : Cx} {W : WX} {CU : Addr} {ρ ρ' ρ1 : List Sl} {d : D} {ds ys : List D} {tg it e : Expr} {pos : Pos} {vs : List Nat}
theorem tv_name {i : Nat} (hi : i ∈ vs) : TgV (gName i) vs ρ d (ρ.set i (.val d)) := fun B M0 b P σ H v S uP Q k => k _ _ (S.setVal uP i) (fun j hj => List.getElem?_set_ne (fun z => hj (by rw [← z]; exact hi))) (List.length_set ..)
theorem tvs_nil : TgsV gNil vs ρ [] ρ := fun B M0 b P σ H ws S uP Q k => by
  obtain ⟨M, _, q, _⟩ := S.know
  have e : ws = [] := q
  exact ⟨e, k σ H (S.imp uP fun _ _ q => q.2) (fun _ _ => rfl) rfl⟩
theorem tvs_cons {g : TG} {gs : TGs} (h : TgV g vs ρ d ρ1) (hs : TgsV gs vs ρ1 ds ρ') : TgsV (gCons g gs) vs ρ (d :: ds) ρ' := fun B M0 b P σ H ws S uP Q k => by
  obtain ⟨M, _, ⟨v, r, e, _, _⟩, _⟩ := S.know
  subst e
  refine ⟨v, r, rfl, h B M0 b (fun M => AtL M ds r ∧ P M) σ H v (S.imp ((Up.at d v).and ((Up.atL ds r).and uP)) fun M _ q => ?_) ((Up.atL ds r).and uP) _ fun σ' H' S' e1 e2 => hs B M0 b P σ' H' r S' uP Q fun σ2 H2 S2 f1 f2 => k σ2 H2 S2 (fun i hi => (f1 i hi).trans (e1 i hi)) (f2.trans e2)⟩
  obtain ⟨⟨v', r', e', a1, a2⟩, q2⟩ := q
  cases e'
  exact ⟨a1, a2, q2⟩
theorem tv_tup {K : PySem.W.Frag} {gs : TGs} {n : Nat} (h : TgsV gs vs ρ ds ρ') (hn : ds.length = n) : TgV (gTup K n gs) vs ρ (.tup ds) ρ' := fun B M0 b P σ H v S uP Q k => by
  obtain ⟨M, O⟩ := S.opn
  obtain ⟨⟨a, xs, ev, hx, ax⟩, _⟩ := O.p
  have S2 := S.back O (Core.refl O.c.sub) (G := fun M => AtL M ds xs) (Up.atL ds xs) ax
  exact ⟨a, xs, ev, .inl (O.c.sub.rd hx), by rw [← ax.len]; exact hn, h B M0 b P σ H xs (S2.imp ((Up.atL _ _).and uP) fun _ _ q => ⟨q.1, q.2.2⟩) uP Q k⟩
/-- the slots that a comprehension's block may read -/
def inBlk (ρ : List Sl) (vs : List Nat) : List Sl := vs.foldr (fun i r => r.set i .any) (ρ.map blind)
theorem inBlk_len : ∀ (vs : List Nat), (inBlk ρ vs).length = ρ.length
  | [] => by simp [inBlk]
  | v :: vs => by
    have ih := inBlk_len vs
    unfold inBlk at ih ⊢
    rw [List.foldr_cons, List.length_set]; exact ih
theorem inBlk_get {i : Nat} {s : Sl} : ∀ {vs : List Nat}, (inBlk ρ vs)[i]? = some s → s = .any ∨ (i ∉ vs ∧ ∃ d, s = .val d ∧ ρ[i]? = some (.val d))
  | [], h => by
    rcases blind_get h with e | ⟨d, e, h⟩
    · exact .inl e
    · exact .inr ⟨by simp, d, e, h⟩
  | v :: vs, h => by
    have h' : ((inBlk ρ vs).set v .any)[i]? = some s := h
    rcases set_at h' with ⟨e1, e2, _⟩ | ⟨e1, e2⟩
    · exact .inl e2
    · rcases inBlk_get (vs := vs) e2 with e | ⟨f1, f2⟩
      · exact .inl e
      · exact .inr ⟨by simp only [List.mem_cons, not_or]; exact ⟨e1, f1⟩, f2⟩
theorem lc_read {g : TG} {te : TE} {es : Nat → D} {R1 : Nat → List Sl} (hy : ys.length ≤ 100000) (ht : ∀ (i : Nat) d, ys[i]? = some d → TgV g vs (inBlk ρ vs) d (R1 i)) (hte : ∀ (i : Nat) σ H Q, i < ys.length → tD (R1 i) (es i) σ H Q → te σ H Q) (σ : St) (H : Hp) (Q : VK)
    (h : tD ρ (.lst ((List.range ys.length).map es)) σ H Q) : tLc (tI ρ ys) g tYes te vs σ H Q := by
  obtain ⟨B, M0, b, P, S, k⟩ := h
  refine ⟨B, M0, b, P, S, fun J H1 G S1 uG good D hD => ?_⟩
  obtain ⟨M1, O1⟩ := S1.opn
  have m1D : M1 D = none := O1.c.sub.free hD
  refine ⟨fun i m H => m = ys.length - i ∧ i ≤ ys.length ∧ ∃ M' acc, Core H1 M1 none M' H ∧ M' D = none ∧ H D = some (.lst acc) ∧ AtL M' ((List.range i).map es) acc, ⟨_, rfl, Nat.zero_le _, M1, [], ⟨fun a u ha => ?_, Ex.refl _, fun _ _ => rfl, fun a u ha _ => ?_, fun a ha => ?_⟩, m1D, upd_same, rfl⟩, ?_⟩
  · rw [upd_ne (fun z => by rw [z, m1D] at ha; cases ha)]; exact O1.c.sub a u ha
  · rw [upd_ne (fun z => by rw [z, hD] at ha; cases ha)]; exact ha
  · rw [upd_ne (fun z => ha (by rw [z]; exact hD))]; exact ha
  rintro i m H2 ⟨rfl, hi, M', acc, c, mD, hDa, aa⟩
  obtain ⟨g1, g2⟩ := good M' H2 (uG _ _ c.old O1.p.1) c.sub
  by_cases hlt : i < ys.length
  · have hyi : ys[i]? = some ys[i] := List.getElem?_eq_getElem hlt
    obtain ⟨j1, j2⟩ := g1 i _ hyi
    refine .inr ⟨j1, fun H3 => ∃ M3 acc3, Core H1 M1 none M3 H3 ∧ M3 D = none ∧ H3 D = some (.lst acc3) ∧ AtL M3 ((List.range (i + 1)).map es) acc3, fun H3 p => ⟨ys.length - (i + 1), by omega, rfl, hlt, p⟩, fun x H3 hy3 => ?_⟩
    obtain ⟨M3, c3, a3⟩ := j2 x H3 hy3
    have c13 := c.trans c3
    have hD3 : H3 D = some (.lst acc) := c3.keep D _ hDa (fun z => by cases z)
    have m3D : M3 D = none := (c3.eq D (by rw [hDa]; exact fun z => by cases z)).trans mD
    have Sb : StV H3 M3 none (inBlk ρ vs) (fun M => At M ys[i] x ∧ True) (wipe σ vs) H3 := by
      refine ⟨⟨M3, Core.refl c3.sub, ⟨a3, trivial⟩, fun j s hj => ?_⟩, (Up.at _ _).and Up.true, by rw [inBlk_len, wipe_length]; exact S1.len, fun j l d e hjl h1 h2 => ?_, fun j l d e h1 h2 => ?_⟩
      · rcases inBlk_get hj with e | ⟨n1, d, e, hd⟩
        · subst e; trivial
        · subst e
          obtain ⟨v, hv, av⟩ := O1.s j _ hd
          exact ⟨v, by rw [wipe_at, if_neg n1]; exact hv, av.up c13.old⟩
      · rcases inBlk_get h1 with e | ⟨_, d, e, _⟩ <;> cases e
      · rcases inBlk_get h1 with e | ⟨_, d, e, _⟩ <;> cases e
    refine ht i _ hyi H3 M3 none _ (wipe σ vs) H3 x Sb Up.true _ fun σ4 H4 S4 e1 e2 => ⟨?_, ?_⟩
    · rw [wipe_eq e2 e1, wipe_wipe]
    · show te σ4 H4 _
      refine hte i σ4 H4 _ hlt ⟨H3, M3, none, _, S4, fun y H5 S5 => ?_⟩
      obtain ⟨M5, O5⟩ := S5.opn
      have hD5 : H5 D = some (.lst acc) := O5.c.keep D _ hD3 (fun z => by cases z)
      have m5D : M5 D = none := (O5.c.eq D (by rw [hD3]; exact fun z => by cases z)).trans m3D
      have c15 := c13.trans O5.c
      have la : acc.length = i := by rw [← aa.len]; simp
      refine ⟨acc, hD5, by rw [la]; exact Nat.lt_of_lt_of_le (by omega : i < 100000) (by decide), M5, acc ++ [y], ⟨fun a u ha => ?_, c15.old, c15.eq, fun a u ha hb => ?_, fun a ha => ?_⟩, m5D, upd_same, ?_⟩
      · rw [upd_ne (fun z => by rw [z, m5D] at ha; cases ha)]; exact c15.sub a u ha
      · rw [upd_ne (fun z => by rw [z, hD] at ha; cases ha)]; exact c15.keep a u ha hb
      · rw [upd_ne (fun z => ha (by rw [z]; exact hD))]; exact c15.there a ha
      · rw [List.range_succ, List.map_append]
        exact (aa.up (c3.old.trans O5.c.old)).append ⟨y, [], rfl, O5.p.1, rfl⟩
  · have e : i = ys.length := by omega
    subst e
    refine .inl ⟨g2, k _ H2 ?_⟩
    have e0 : Ex M' (upd M' D (.lst acc)) := Ex.new mD
    have c6 : Core H1 M1 none (upd M' D (.lst acc)) H2 := ⟨fun a u ha => by
      by_cases z : a = D
      · subst z; rw [upd_same] at ha; cases ha; exact hDa
      · rw [upd_ne z] at ha; exact c.sub a u ha, c.old.trans e0, fun a ha => by
      rw [upd_ne (fun z => ha (by rw [z]; exact hD))]; exact c.eq a ha, c.keep, c.there⟩
    exact (S1.back O1 c6 (Up.at (.lst ((List.range ys.length).map es)) (.ref D)) ⟨D, acc, rfl, upd_same, aa.up e0⟩).imp ((Up.at _ _).and S.up) fun _ _ q => ⟨q.1, q.2.2⟩
/-- an element, by the turn -/
theorem pe_turns {es : Nat → D} {R1 : Nat → List Sl} {n : Nat} (h : ∀ i, i < n → PE X e (tD (R1 i) (es i))) : PE X e (fun σ H Q => ∃ i, i < n ∧ tD (R1 i) (es i) σ H Q) := ⟨fun pins s σ H Q I ⟨i, hi, q⟩ => (h i hi).run pins s σ H Q I q⟩
theorem x_lc {elt : Expr} {scope : Scope} (own : List (Str × Nat)) {g : TG} (es : Nat → D) (R1 : Nat → List Sl) (hc : X.calm = true) (hN : X.N.Nodup) (hi : PI X tg it (tI ρ ys)) (ok : BlkOk X.N X.env.scope scope own) (hy : ys.length ≤ 100000)
    (hg : ∀ (s : Shared) (H : Hp) (C : Addr) (cl : List (Str × Addr)) (fp : List Addr), PG (X.blk s H scope (compEnvC scope cl C X.env) fp) tg g) (ht : ∀ (i : Nat) d, ys[i]? = some d → TgV g (own.map (·.2)) (inBlk ρ (own.map (·.2))) d (R1 i))
    (he : ∀ (s : Shared) (H : Hp) (C : Addr) (cl : List (Str × Addr)) (fp : List Addr) (i : Nat), i < ys.length → PE (X.blk s H scope (compEnvC scope cl C X.env) fp) elt (tD (R1 i) (es i))) (hs : ∀ x, foldedSetIterable it X.env x = pure x := by intro _; rfl) :
    PE X (.ListComp elt [⟨tg, it, [], 0⟩] scope pos) (tD ρ (.lst ((List.range ys.length).map es))) :=
  pe_imp (pe_lc hc hN hi ok hg (fun _ _ _ _ _ => pts_nil) (fun s H C cl fp => pe_turns (he s H C cl fp)) hs) fun σ H Q h => lc_read hy ht (fun i σ H Q hi q => ⟨i, hi, q⟩) σ H Q h
theorem s_lc {elt : Expr} {scope : Scope} {n : Nat} {y : Str} {py spos : Pos} (i : Nat) (own : List (Str × Nat)) {g : TG} (es : Nat → D) (R1 : Nat → List Sl) (hc : X.calm = true) (hN : X.N.Nodup) (hyN : X.N[i]? = some y) (hyl : X.env.scope.names.lookup y = some .local)
    (hsw : swapsWith (.ListComp elt [⟨tg, it, [], 0⟩] scope pos) (some (.Name y py)) spos.line X.env = pure true) (hi : PI X tg it (tI ρ ys)) (ok : BlkOk X.N X.env.scope scope own) (hy : ys.length ≤ 100000)
    (hg : ∀ (s : Shared) (H : Hp) (C : Addr) (cl : List (Str × Addr)) (fp : List Addr), PG (X.blk s H scope (compEnvC scope cl C X.env) fp) tg g) (ht : ∀ (i : Nat) d, ys[i]? = some d → TgV g (own.map (·.2)) (inBlk ρ (own.map (·.2))) d (R1 i))
    (he : ∀ (s : Shared) (H : Hp) (C : Addr) (cl : List (Str × Addr)) (fp : List Addr) (i : Nat), i < ys.length → PE (X.blk s H scope (compEnvC scope cl C X.env) fp) elt (tD (R1 i) (es i))) (hs : ∀ x, foldedSetIterable it X.env x = pure x := by intro _; rfl) :
    PS X (.Assign [.Name y py] (.ListComp elt [⟨tg, it, [], 0⟩] scope pos) spos) (tS W CU ρ (.nx (ρ.set i (.val (.lst ((List.range ys.length).map es)))))) :=
  ps_imp (ps_setLc hc hN hyN hyl hsw hi ok hg (fun _ _ _ _ _ => pts_nil) (fun s H C cl fp => pe_turns (he s H C cl fp)) hs) fun D σ H ⟨B, M0, b, P, S, k⟩ =>
    lc_read hy ht (fun i σ H Q hi q => ⟨i, hi, q⟩) σ H _ ⟨B, M0, b, P, S, fun v H2 S2 => k _ _ (S2.setVal S.up i)⟩
end
end Sd

namespace Sd
open PySem L2
def topS (i : Nat) : Stmt := PySem.Challenge.pw_stoodthen_k51_whole_told_at_any_size.main.body.getD i (.Pass ⟨0, 0, 0, 0⟩)
abbrev s_is_integer : Stmt := topS 7
abbrev s_is_number : Stmt := topS 8
abbrev s_is_dials : Stmt := topS 9
abbrev s_is_row : Stmt := topS 10
abbrev s_is_tour : Stmt := topS 11
abbrev s_is_view : Stmt := topS 12
abbrev s_c_product : Stmt := topS 14
abbrev s_cuts_of : Stmt := topS 16
abbrev s_least_cut : Stmt := topS 17
abbrev s_cut_gap : Stmt := topS 18
abbrev s_d_is_below : Stmt := topS 20
abbrev s_d_product : Stmt := topS 21
abbrev s_d_counted : Stmt := topS 22
abbrev s_d_count_of : Stmt := topS 23
abbrev s_d_split : Stmt := topS 24
abbrev s_d_mesh_rights : Stmt := topS 25
abbrev s_d_mesh_counts : Stmt := topS 26
abbrev s_d_core_many : Stmt := topS 27
abbrev s_d_core_values : Stmt := topS 28
abbrev s_d_core_place : Stmt := topS 29
abbrev s_d_nest_many : Stmt := topS 30
abbrev s_d_nest_values : Stmt := topS 31
abbrev s_d_nest_place : Stmt := topS 32
abbrev s_core_row : Stmt := topS 34
abbrev s_d_mesh_halves : Stmt := topS 36
abbrev s_halves_of : Stmt := topS 37
abbrev s_c_is_sizes : Stmt := topS 39
abbrev s_is_nest : Stmt := topS 40
abbrev s_nest_dials : Stmt := topS 41
abbrev s_nest_tour : Stmt := topS 42
abbrev s_nest_held : Stmt := topS 43
abbrev s_show_on : Stmt := topS 45
abbrev s_show_back : Stmt := topS 46
abbrev s_half_widths : Stmt := topS 47
abbrev s_asked_tour : Stmt := topS 50
abbrev s_ends_by : Stmt := topS 51
abbrev s_begins_by : Stmt := topS 52
abbrev s_first_end : Stmt := topS 54
abbrev s_last_begin : Stmt := topS 55
abbrev s_is_seen : Stmt := topS 57
abbrev s_right_span : Stmt := topS 58
abbrev s_told_stage : Stmt := topS 59
abbrev s_row_at : Stmt := topS 61
abbrev s_stage_by : Stmt := topS 62
abbrev s_core_told : Stmt := topS 64
abbrev s_weak_way : Stmt := topS 65
abbrev s_weak_stage : Stmt := topS 66
abbrev s_law_start : Stmt := topS 70
abbrev s_law_draw : Stmt := topS 71
abbrev s_law_great : Stmt := topS 72
abbrev s_law_same : Stmt := topS 73
abbrev s_law_product : Stmt := topS 74
abbrev s_law_sizes : Stmt := topS 75
abbrev s_law_nest : Stmt := topS 76
abbrev s_law_halves : Stmt := topS 77
abbrev s_law_comes : Stmt := topS 78
abbrev s_law_rights : Stmt := topS 79
abbrev s_law_begins : Stmt := topS 80
abbrev s_law_wave : Stmt := topS 81
abbrev s_law_world : Stmt := topS 82
abbrev s_law_shows : Stmt := topS 83
abbrev s_law_outer : Stmt := topS 84
abbrev s_law_core : Stmt := topS 85
abbrev s_law_seek : Stmt := topS 86
abbrev s_law_spans : Stmt := topS 87
abbrev s_law_heard : Stmt := topS 88
abbrev s_law_weak : Stmt := topS 89
abbrev s_law_told : Stmt := topS 90
abbrev s_law_moment : Stmt := topS 91
abbrev s_law_watch : Stmt := topS 92
abbrev s_law_rows : Stmt := topS 93
abbrev s_law_bent : Stmt := topS 94
abbrev s_law : Stmt := topS 95
abbrev s_Unseen_init : Stmt := inClass (topS 5) 0
abbrev s_TellCore_init : Stmt := inClass (topS 48) 0
abbrev s_TellCore_counts : Stmt := inClass (topS 48) 1
abbrev s_TellCore_left_begin : Stmt := inClass (topS 48) 2
abbrev s_TellCore_right_begin : Stmt := inClass (topS 48) 3
abbrev s_TellCore_next_of : Stmt := inClass (topS 48) 4
abbrev s_TellCore_last_of : Stmt := inClass (topS 48) 5
abbrev s_TellNest_init : Stmt := inClass (topS 49) 0
abbrev s_TellNest_outer_begin : Stmt := inClass (topS 49) 1
abbrev s_TellNest_core_value : Stmt := inClass (topS 49) 2
abbrev s_TellNest_next_of : Stmt := inClass (topS 49) 3
abbrev s_TellNest_last_of : Stmt := inClass (topS 49) 4
abbrev s_Teller_init : Stmt := inClass (topS 68) 0
abbrev s_Teller_told : Stmt := inClass (topS 68) 1
abbrev s_Teller_span : Stmt := inClass (topS 68) 2
abbrev s_Teller_seen : Stmt := inClass (topS 68) 3
abbrev s_Teller_weak : Stmt := inClass (topS 68) 4
def ds_is_integer : He.DefD := ⟨("is_integer", none), "is_integer", "is_integer", defArgs s_is_integer, defBody s_is_integer, defScope s_is_integer, [], []⟩
def ds_is_number : He.DefD := ⟨("is_number", none), "is_number", "is_number", defArgs s_is_number, defBody s_is_number, defScope s_is_number, [], []⟩
def ds_is_dials : He.DefD := ⟨("is_dials", none), "is_dials", "is_dials", defArgs s_is_dials, defBody s_is_dials, defScope s_is_dials, [], []⟩
def ds_is_row : He.DefD := ⟨("is_row", none), "is_row", "is_row", defArgs s_is_row, defBody s_is_row, defScope s_is_row, [], []⟩
def ds_is_tour : He.DefD := ⟨("is_tour", none), "is_tour", "is_tour", defArgs s_is_tour, defBody s_is_tour, defScope s_is_tour, [], []⟩
def ds_is_view : He.DefD := ⟨("is_view", none), "is_view", "is_view", defArgs s_is_view, defBody s_is_view, defScope s_is_view, [], []⟩
def ds_c_product : He.DefD := ⟨("c_product", none), "c_product", "c_product", defArgs s_c_product, defBody s_c_product, defScope s_c_product, [], []⟩
def ds_cuts_of : He.DefD := ⟨("cuts_of", none), "cuts_of", "cuts_of", defArgs s_cuts_of, defBody s_cuts_of, defScope s_cuts_of, [], []⟩
def ds_least_cut : He.DefD := ⟨("least_cut", none), "least_cut", "least_cut", defArgs s_least_cut, defBody s_least_cut, defScope s_least_cut, [], []⟩
def ds_cut_gap : He.DefD := ⟨("cut_gap", none), "cut_gap", "cut_gap", defArgs s_cut_gap, defBody s_cut_gap, defScope s_cut_gap, [], []⟩
def ds_d_is_below : He.DefD := ⟨("d_is_below", none), "d_is_below", "d_is_below", defArgs s_d_is_below, defBody s_d_is_below, defScope s_d_is_below, [], []⟩
def ds_d_product : He.DefD := ⟨("d_product", none), "d_product", "d_product", defArgs s_d_product, defBody s_d_product, defScope s_d_product, [], []⟩
def ds_d_counted : He.DefD := ⟨("d_counted", none), "d_counted", "d_counted", defArgs s_d_counted, defBody s_d_counted, defScope s_d_counted, [], []⟩
def ds_d_count_of : He.DefD := ⟨("d_count_of", none), "d_count_of", "d_count_of", defArgs s_d_count_of, defBody s_d_count_of, defScope s_d_count_of, [], []⟩
def ds_d_split : He.DefD := ⟨("d_split", none), "d_split", "d_split", defArgs s_d_split, defBody s_d_split, defScope s_d_split, [], []⟩
def ds_d_mesh_rights : He.DefD := ⟨("d_mesh_rights", none), "d_mesh_rights", "d_mesh_rights", defArgs s_d_mesh_rights, defBody s_d_mesh_rights, defScope s_d_mesh_rights, [], []⟩
def ds_d_mesh_counts : He.DefD := ⟨("d_mesh_counts", none), "d_mesh_counts", "d_mesh_counts", defArgs s_d_mesh_counts, defBody s_d_mesh_counts, defScope s_d_mesh_counts, [], []⟩
def ds_d_core_many : He.DefD := ⟨("d_core_many", none), "d_core_many", "d_core_many", defArgs s_d_core_many, defBody s_d_core_many, defScope s_d_core_many, [], []⟩
def ds_d_core_values : He.DefD := ⟨("d_core_values", none), "d_core_values", "d_core_values", defArgs s_d_core_values, defBody s_d_core_values, defScope s_d_core_values, [], []⟩
def ds_d_core_place : He.DefD := ⟨("d_core_place", none), "d_core_place", "d_core_place", defArgs s_d_core_place, defBody s_d_core_place, defScope s_d_core_place, [], []⟩
def ds_d_nest_many : He.DefD := ⟨("d_nest_many", none), "d_nest_many", "d_nest_many", defArgs s_d_nest_many, defBody s_d_nest_many, defScope s_d_nest_many, [], []⟩
def ds_d_nest_values : He.DefD := ⟨("d_nest_values", none), "d_nest_values", "d_nest_values", defArgs s_d_nest_values, defBody s_d_nest_values, defScope s_d_nest_values, [], []⟩
def ds_d_nest_place : He.DefD := ⟨("d_nest_place", none), "d_nest_place", "d_nest_place", defArgs s_d_nest_place, defBody s_d_nest_place, defScope s_d_nest_place, [], []⟩
def ds_core_row : He.DefD := ⟨("core_row", none), "core_row", "core_row", defArgs s_core_row, defBody s_core_row, defScope s_core_row, [], []⟩
def ds_d_mesh_halves : He.DefD := ⟨("d_mesh_halves", none), "d_mesh_halves", "d_mesh_halves", defArgs s_d_mesh_halves, defBody s_d_mesh_halves, defScope s_d_mesh_halves, [], []⟩
def ds_halves_of : He.DefD := ⟨("halves_of", none), "halves_of", "halves_of", defArgs s_halves_of, defBody s_halves_of, defScope s_halves_of, [], []⟩
def ds_c_is_sizes : He.DefD := ⟨("c_is_sizes", none), "c_is_sizes", "c_is_sizes", defArgs s_c_is_sizes, defBody s_c_is_sizes, defScope s_c_is_sizes, [], []⟩
def ds_is_nest : He.DefD := ⟨("is_nest", none), "is_nest", "is_nest", defArgs s_is_nest, defBody s_is_nest, defScope s_is_nest, [], []⟩
def ds_nest_dials : He.DefD := ⟨("nest_dials", none), "nest_dials", "nest_dials", defArgs s_nest_dials, defBody s_nest_dials, defScope s_nest_dials, [], []⟩
def ds_nest_tour : He.DefD := ⟨("nest_tour", none), "nest_tour", "nest_tour", defArgs s_nest_tour, defBody s_nest_tour, defScope s_nest_tour, [], []⟩
def ds_nest_held : He.DefD := ⟨("nest_held", none), "nest_held", "nest_held", defArgs s_nest_held, defBody s_nest_held, defScope s_nest_held, [], []⟩
def ds_show_on : He.DefD := ⟨("show_on", none), "show_on", "show_on", defArgs s_show_on, defBody s_show_on, defScope s_show_on, [], []⟩
def ds_show_back : He.DefD := ⟨("show_back", none), "show_back", "show_back", defArgs s_show_back, defBody s_show_back, defScope s_show_back, [], []⟩
def ds_half_widths : He.DefD := ⟨("half_widths", none), "half_widths", "half_widths", defArgs s_half_widths, defBody s_half_widths, defScope s_half_widths, [], []⟩
def ds_asked_tour : He.DefD := ⟨("asked_tour", none), "asked_tour", "asked_tour", defArgs s_asked_tour, defBody s_asked_tour, defScope s_asked_tour, [], []⟩
def ds_ends_by : He.DefD := ⟨("ends_by", none), "ends_by", "ends_by", defArgs s_ends_by, defBody s_ends_by, defScope s_ends_by, [.int 0], []⟩
def ds_begins_by : He.DefD := ⟨("begins_by", none), "begins_by", "begins_by", defArgs s_begins_by, defBody s_begins_by, defScope s_begins_by, [], []⟩
def ds_first_end : He.DefD := ⟨("first_end", none), "first_end", "first_end", defArgs s_first_end, defBody s_first_end, defScope s_first_end, [], []⟩
def ds_last_begin : He.DefD := ⟨("last_begin", none), "last_begin", "last_begin", defArgs s_last_begin, defBody s_last_begin, defScope s_last_begin, [], []⟩
def ds_is_seen : He.DefD := ⟨("is_seen", none), "is_seen", "is_seen", defArgs s_is_seen, defBody s_is_seen, defScope s_is_seen, [], []⟩
def ds_right_span : He.DefD := ⟨("right_span", none), "right_span", "right_span", defArgs s_right_span, defBody s_right_span, defScope s_right_span, [], []⟩
def ds_told_stage : He.DefD := ⟨("told_stage", none), "told_stage", "told_stage", defArgs s_told_stage, defBody s_told_stage, defScope s_told_stage, [], []⟩
def ds_row_at : He.DefD := ⟨("row_at", none), "row_at", "row_at", defArgs s_row_at, defBody s_row_at, defScope s_row_at, [], []⟩
def ds_stage_by : He.DefD := ⟨("stage_by", none), "stage_by", "stage_by", defArgs s_stage_by, defBody s_stage_by, defScope s_stage_by, [], []⟩
def ds_core_told : He.DefD := ⟨("core_told", none), "core_told", "core_told", defArgs s_core_told, defBody s_core_told, defScope s_core_told, [], []⟩
def ds_weak_way : He.DefD := ⟨("weak_way", none), "weak_way", "weak_way", defArgs s_weak_way, defBody s_weak_way, defScope s_weak_way, [], []⟩
def ds_weak_stage : He.DefD := ⟨("weak_stage", none), "weak_stage", "weak_stage", defArgs s_weak_stage, defBody s_weak_stage, defScope s_weak_stage, [], []⟩
def ds_law_start : He.DefD := ⟨("_law_start", none), "_law_start", "_law_start", defArgs s_law_start, defBody s_law_start, defScope s_law_start, [], []⟩
def ds_law_draw : He.DefD := ⟨("_law_draw", none), "_law_draw", "_law_draw", defArgs s_law_draw, defBody s_law_draw, defScope s_law_draw, [], []⟩
def ds_law_great : He.DefD := ⟨("_law_great", none), "_law_great", "_law_great", defArgs s_law_great, defBody s_law_great, defScope s_law_great, [], []⟩
def ds_law_same : He.DefD := ⟨("_law_same", none), "_law_same", "_law_same", defArgs s_law_same, defBody s_law_same, defScope s_law_same, [], []⟩
def ds_law_product : He.DefD := ⟨("_law_product", none), "_law_product", "_law_product", defArgs s_law_product, defBody s_law_product, defScope s_law_product, [], []⟩
def ds_law_sizes : He.DefD := ⟨("_law_sizes", none), "_law_sizes", "_law_sizes", defArgs s_law_sizes, defBody s_law_sizes, defScope s_law_sizes, [], []⟩
def ds_law_nest : He.DefD := ⟨("_law_nest", none), "_law_nest", "_law_nest", defArgs s_law_nest, defBody s_law_nest, defScope s_law_nest, [], []⟩
def ds_law_halves : He.DefD := ⟨("_law_halves", none), "_law_halves", "_law_halves", defArgs s_law_halves, defBody s_law_halves, defScope s_law_halves, [], []⟩
def ds_law_comes : He.DefD := ⟨("_law_comes", none), "_law_comes", "_law_comes", defArgs s_law_comes, defBody s_law_comes, defScope s_law_comes, [], []⟩
def ds_law_rights : He.DefD := ⟨("_law_rights", none), "_law_rights", "_law_rights", defArgs s_law_rights, defBody s_law_rights, defScope s_law_rights, [], []⟩
def ds_law_begins : He.DefD := ⟨("_law_begins", none), "_law_begins", "_law_begins", defArgs s_law_begins, defBody s_law_begins, defScope s_law_begins, [], []⟩
def ds_law_wave : He.DefD := ⟨("_law_wave", none), "_law_wave", "_law_wave", defArgs s_law_wave, defBody s_law_wave, defScope s_law_wave, [], []⟩
def ds_law_world : He.DefD := ⟨("_law_world", none), "_law_world", "_law_world", defArgs s_law_world, defBody s_law_world, defScope s_law_world, [], []⟩
def ds_law_shows : He.DefD := ⟨("_law_shows", none), "_law_shows", "_law_shows", defArgs s_law_shows, defBody s_law_shows, defScope s_law_shows, [], []⟩
def ds_law_outer : He.DefD := ⟨("_law_outer", none), "_law_outer", "_law_outer", defArgs s_law_outer, defBody s_law_outer, defScope s_law_outer, [], []⟩
def ds_law_core : He.DefD := ⟨("_law_core", none), "_law_core", "_law_core", defArgs s_law_core, defBody s_law_core, defScope s_law_core, [], []⟩
def ds_law_seek : He.DefD := ⟨("_law_seek", none), "_law_seek", "_law_seek", defArgs s_law_seek, defBody s_law_seek, defScope s_law_seek, [], []⟩
def ds_law_spans : He.DefD := ⟨("_law_spans", none), "_law_spans", "_law_spans", defArgs s_law_spans, defBody s_law_spans, defScope s_law_spans, [], []⟩
def ds_law_heard : He.DefD := ⟨("_law_heard", none), "_law_heard", "_law_heard", defArgs s_law_heard, defBody s_law_heard, defScope s_law_heard, [], []⟩
def ds_law_weak : He.DefD := ⟨("_law_weak", none), "_law_weak", "_law_weak", defArgs s_law_weak, defBody s_law_weak, defScope s_law_weak, [], []⟩
def ds_law_told : He.DefD := ⟨("_law_told", none), "_law_told", "_law_told", defArgs s_law_told, defBody s_law_told, defScope s_law_told, [], []⟩
def ds_law_moment : He.DefD := ⟨("_law_moment", none), "_law_moment", "_law_moment", defArgs s_law_moment, defBody s_law_moment, defScope s_law_moment, [], []⟩
def ds_law_watch : He.DefD := ⟨("_law_watch", none), "_law_watch", "_law_watch", defArgs s_law_watch, defBody s_law_watch, defScope s_law_watch, [], []⟩
def ds_law_rows : He.DefD := ⟨("_law_rows", none), "_law_rows", "_law_rows", defArgs s_law_rows, defBody s_law_rows, defScope s_law_rows, [], []⟩
def ds_law_bent : He.DefD := ⟨("_law_bent", none), "_law_bent", "_law_bent", defArgs s_law_bent, defBody s_law_bent, defScope s_law_bent, [], []⟩
def ds_law : He.DefD := ⟨("law", none), "law", "law", defArgs s_law, defBody s_law, defScope s_law, [], []⟩
def ds_Unseen_init : He.DefD := ⟨("Unseen", some "__init__"), "__init__", "Unseen.__init__", defArgs s_Unseen_init, defBody s_Unseen_init, defScope s_Unseen_init, [], []⟩
def ds_TellCore_init : He.DefD := ⟨("TellCore", some "__init__"), "__init__", "TellCore.__init__", defArgs s_TellCore_init, defBody s_TellCore_init, defScope s_TellCore_init, [], []⟩
def ds_TellCore_counts : He.DefD := ⟨("TellCore", some "counts"), "counts", "TellCore.counts", defArgs s_TellCore_counts, defBody s_TellCore_counts, defScope s_TellCore_counts, [], []⟩
def ds_TellCore_left_begin : He.DefD := ⟨("TellCore", some "left_begin"), "left_begin", "TellCore.left_begin", defArgs s_TellCore_left_begin, defBody s_TellCore_left_begin, defScope s_TellCore_left_begin, [], []⟩
def ds_TellCore_right_begin : He.DefD := ⟨("TellCore", some "right_begin"), "right_begin", "TellCore.right_begin", defArgs s_TellCore_right_begin, defBody s_TellCore_right_begin, defScope s_TellCore_right_begin, [], []⟩
def ds_TellCore_next_of : He.DefD := ⟨("TellCore", some "next_of"), "next_of", "TellCore.next_of", defArgs s_TellCore_next_of, defBody s_TellCore_next_of, defScope s_TellCore_next_of, [], []⟩
def ds_TellCore_last_of : He.DefD := ⟨("TellCore", some "last_of"), "last_of", "TellCore.last_of", defArgs s_TellCore_last_of, defBody s_TellCore_last_of, defScope s_TellCore_last_of, [], []⟩
def ds_TellNest_init : He.DefD := ⟨("TellNest", some "__init__"), "__init__", "TellNest.__init__", defArgs s_TellNest_init, defBody s_TellNest_init, defScope s_TellNest_init, [], []⟩
def ds_TellNest_outer_begin : He.DefD := ⟨("TellNest", some "outer_begin"), "outer_begin", "TellNest.outer_begin", defArgs s_TellNest_outer_begin, defBody s_TellNest_outer_begin, defScope s_TellNest_outer_begin, [], []⟩
def ds_TellNest_core_value : He.DefD := ⟨("TellNest", some "core_value"), "core_value", "TellNest.core_value", defArgs s_TellNest_core_value, defBody s_TellNest_core_value, defScope s_TellNest_core_value, [], []⟩
def ds_TellNest_next_of : He.DefD := ⟨("TellNest", some "next_of"), "next_of", "TellNest.next_of", defArgs s_TellNest_next_of, defBody s_TellNest_next_of, defScope s_TellNest_next_of, [], []⟩
def ds_TellNest_last_of : He.DefD := ⟨("TellNest", some "last_of"), "last_of", "TellNest.last_of", defArgs s_TellNest_last_of, defBody s_TellNest_last_of, defScope s_TellNest_last_of, [], []⟩
def ds_Teller_init : He.DefD := ⟨("Teller", some "__init__"), "__init__", "Teller.__init__", defArgs s_Teller_init, defBody s_Teller_init, defScope s_Teller_init, [], []⟩
def ds_Teller_told : He.DefD := ⟨("Teller", some "told"), "told", "Teller.told", defArgs s_Teller_told, defBody s_Teller_told, defScope s_Teller_told, [], []⟩
def ds_Teller_span : He.DefD := ⟨("Teller", some "span"), "span", "Teller.span", defArgs s_Teller_span, defBody s_Teller_span, defScope s_Teller_span, [], []⟩
def ds_Teller_seen : He.DefD := ⟨("Teller", some "seen"), "seen", "Teller.seen", defArgs s_Teller_seen, defBody s_Teller_seen, defScope s_Teller_seen, [], []⟩
def ds_Teller_weak : He.DefD := ⟨("Teller", some "weak"), "weak", "Teller.weak", defArgs s_Teller_weak, defBody s_Teller_weak, defScope s_Teller_weak, [], []⟩
def fnL0 : List He.DefD := [ds_is_integer, ds_is_number, ds_is_dials, ds_is_row, ds_is_tour, ds_is_view, ds_c_product, ds_cuts_of, ds_least_cut, ds_cut_gap, ds_d_is_below, ds_d_product, ds_d_counted, ds_d_count_of, ds_d_split, ds_d_mesh_rights, ds_d_mesh_counts, ds_d_core_many, ds_d_core_values, ds_d_core_place, ds_d_nest_many, ds_d_nest_values, ds_d_nest_place, ds_core_row, ds_d_mesh_halves]
def fnL1 : List He.DefD := [ds_halves_of, ds_c_is_sizes, ds_is_nest, ds_nest_dials, ds_nest_tour, ds_nest_held, ds_show_on, ds_show_back, ds_half_widths, ds_asked_tour, ds_ends_by, ds_begins_by, ds_first_end, ds_last_begin, ds_is_seen, ds_right_span, ds_told_stage, ds_row_at, ds_stage_by, ds_core_told, ds_weak_way, ds_weak_stage, ds_law_start, ds_law_draw, ds_law_great]
def fnL2 : List He.DefD := [ds_law_same, ds_law_product, ds_law_sizes, ds_law_nest, ds_law_halves, ds_law_comes, ds_law_rights, ds_law_begins, ds_law_wave, ds_law_world, ds_law_shows, ds_law_outer, ds_law_core, ds_law_seek, ds_law_spans, ds_law_heard, ds_law_weak, ds_law_told, ds_law_moment, ds_law_watch, ds_law_rows, ds_law_bent, ds_law, ds_Unseen_init, ds_TellCore_init]
def fnL3 : List He.DefD := [ds_TellCore_counts, ds_TellCore_left_begin, ds_TellCore_right_begin, ds_TellCore_next_of, ds_TellCore_last_of, ds_TellNest_init, ds_TellNest_outer_begin, ds_TellNest_core_value, ds_TellNest_next_of, ds_TellNest_last_of, ds_Teller_init, ds_Teller_told, ds_Teller_span, ds_Teller_seen, ds_Teller_weak]
def fnL : List He.DefD := fnL0 ++ fnL1 ++ fnL2 ++ fnL3
def faL0 : List He.Fa := [.glo "is_integer", .glo "is_number", .glo "is_dials", .glo "is_row", .glo "is_tour", .glo "is_view", .glo "c_product", .glo "cuts_of", .glo "least_cut", .glo "cut_gap", .glo "d_is_below", .glo "d_product", .glo "d_counted", .glo "d_count_of", .glo "d_split", .glo "d_mesh_rights", .glo "d_mesh_counts", .glo "d_core_many", .glo "d_core_values", .glo "d_core_place", .glo "d_nest_many", .glo "d_nest_values", .glo "d_nest_place", .glo "core_row", .glo "d_mesh_halves"]
def faL1 : List He.Fa := [.glo "halves_of", .glo "c_is_sizes", .glo "is_nest", .glo "nest_dials", .glo "nest_tour", .glo "nest_held", .glo "show_on", .glo "show_back", .glo "half_widths", .glo "asked_tour", .glo "ends_by", .glo "begins_by", .glo "first_end", .glo "last_begin", .glo "is_seen", .glo "right_span", .glo "told_stage", .glo "row_at", .glo "stage_by", .glo "core_told", .glo "weak_way", .glo "weak_stage", .glo "_law_start", .glo "_law_draw", .glo "_law_great"]
def faL2 : List He.Fa := [.glo "_law_same", .glo "_law_product", .glo "_law_sizes", .glo "_law_nest", .glo "_law_halves", .glo "_law_comes", .glo "_law_rights", .glo "_law_begins", .glo "_law_wave", .glo "_law_world", .glo "_law_shows", .glo "_law_outer", .glo "_law_core", .glo "_law_seek", .glo "_law_spans", .glo "_law_heard", .glo "_law_weak", .glo "_law_told", .glo "_law_moment", .glo "_law_watch", .glo "_law_rows", .glo "_law_bent", .glo "law", .glo "Unseen", .glo "TellCore"]
def faL3 : List He.Fa := [.glo "TellNest", .glo "Teller", .free "len", .free "range", .free "min", .free "max", .free "isinstance", .free "int", .free "bool", .free "str", .free "tuple", .free "list", .free "reversed", .free "zip", .free "enumerate", .free "divmod", .free "all", .cls "TellCore", .noat "TellCore" "sizes", .noat "TellCore" "many", .noat "TellCore" "moved", .noat "TellCore" "gap", .noat "TellCore" "halves", .noat "TellCore" "widths", .mkr "TellCore"]
def faL4 : List He.Fa := [.cls "TellNest", .noat "TellNest" "outer", .noat "TellNest" "core", .noat "TellNest" "many", .noat "TellNest" "spans", .mkr "TellNest", .cls "Teller", .noat "Teller" "nest", .mkr "Teller", .meth "TellCore" "counts", .meth "TellCore" "left_begin", .meth "TellCore" "right_begin", .meth "TellCore" "next_of", .meth "TellCore" "last_of", .meth "TellNest" "outer_begin", .meth "TellNest" "core_value", .meth "TellNest" "next_of", .meth "TellNest" "last_of", .meth "Teller" "told", .meth "Teller" "span", .meth "Teller" "seen", .meth "Teller" "weak"]
def faL : List He.Fa := faL0 ++ faL1 ++ faL2 ++ faL3 ++ faL4
def namesL0 : List PySem.Str := ["_wall", "StoodError", "CodeError", "NotUsable", "Unseen", "is_integer", "is_number", "is_dials", "is_row", "is_tour", "is_view", "c_product", "cuts_of", "least_cut", "cut_gap", "d_is_below", "d_product", "d_counted", "d_count_of", "d_split", "d_mesh_rights", "d_mesh_counts", "d_core_many", "d_core_values", "d_core_place"]
def namesL1 : List PySem.Str := ["d_nest_many", "d_nest_values", "d_nest_place", "core_row", "d_mesh_halves", "halves_of", "c_is_sizes", "is_nest", "nest_dials", "nest_tour", "nest_held", "show_on", "show_back", "half_widths", "TellCore", "TellNest", "asked_tour", "ends_by", "begins_by", "first_end", "last_begin", "is_seen", "right_span", "told_stage", "row_at"]
def namesL2 : List PySem.Str := ["stage_by", "core_told", "weak_way", "weak_stage", "Teller", "_law_start", "_law_draw", "_law_great", "_law_same", "_law_product", "_law_sizes", "_law_nest", "_law_halves", "_law_comes", "_law_rights", "_law_begins", "_law_wave", "_law_world", "_law_shows", "_law_outer", "_law_core", "_law_seek", "_law_spans", "_law_heard", "_law_weak"]
def namesL3 : List PySem.Str := ["_law_told", "_law_moment", "_law_watch", "_law_rows", "_law_bent"]
def namesL : List PySem.Str := namesL0 ++ namesL1 ++ namesL2 ++ namesL3
end Sd

set_option maxHeartbeats 0
namespace Sd
open PySem PySem.Spec PyProof.Rows L2
/-! ### the head: what is seen of the heap that the top leaves, by a list of addresses -/
def asL0 : List PySem.Addr := [3, 6, 4, 21, 31, 44, 63, 82, 91, 98, 103, 108, 113, 118, 125, 132, 139, 146, 153, 160, 167, 174, 181, 188, 195, 202, 209, 216, 223, 228]
def asL1 : List PySem.Addr := [233, 240, 247, 254, 261, 268, 275, 282, 289, 296, 303, 310, 362, 411, 422, 430, 437, 444, 451, 458, 465, 472, 479, 486, 493, 498, 505, 571, 582, 589]
def asL2 : List PySem.Addr := [596, 603, 610, 617, 624, 631, 638, 645, 652, 659, 666, 673, 680, 687, 694, 699, 706, 713, 720, 727, 734, 739, 746, 751, 0, 20, 30, 43, 62, 81]
def asL3 : List PySem.Addr := [90, 97, 102, 107, 112, 117, 124, 131, 138, 145, 152, 159, 166, 173, 180, 187, 194, 201, 208, 215, 222, 227, 232, 239, 246, 253, 260, 267, 274, 281]
def asL4 : List PySem.Addr := [288, 295, 302, 309, 361, 410, 421, 429, 423, 436, 443, 450, 457, 464, 471, 478, 485, 492, 497, 504, 570, 581, 588, 595, 602, 609, 616, 623, 630, 637]
def asL5 : List PySem.Addr := [644, 651, 658, 665, 672, 679, 686, 693, 698, 705, 712, 719, 726, 733, 738, 745, 750, 1, 2, 5, 7, 8, 9, 10, 11, 12, 13, 14, 15, 16]
def asL6 : List PySem.Addr := [17, 18, 19, 22, 23, 24, 25, 26, 27, 28, 29, 32, 33, 34, 35, 36, 37, 38, 39, 40, 41, 42, 45, 46, 47, 48, 49, 50, 51, 52]
def asL7 : List PySem.Addr := [53, 54, 55, 56, 57, 58, 59, 60, 61, 64, 65, 66, 67, 68, 69, 70, 71, 72, 73, 74, 75, 76, 77, 78, 79, 80, 83, 84, 85, 86]
def asL8 : List PySem.Addr := [87, 88, 89, 92, 93, 94, 95, 96, 99, 100, 101, 104, 105, 106, 109, 110, 111, 114, 115, 116, 119, 120, 121, 122, 123, 126, 127, 128, 129, 130]
def asL9 : List PySem.Addr := [133, 134, 135, 136, 137, 140, 141, 142, 143, 144, 147, 148, 149, 150, 151, 154, 155, 156, 157, 158, 161, 162, 163, 164, 165, 168, 169, 170, 171, 172]
def asL10 : List PySem.Addr := [175, 176, 177, 178, 179, 182, 183, 184, 185, 186, 189, 190, 191, 192, 193, 196, 197, 198, 199, 200, 203, 204, 205, 206, 207, 210, 211, 212, 213, 214]
def asL11 : List PySem.Addr := [217, 218, 219, 220, 221, 224, 225, 226, 229, 230, 231, 234, 235, 236, 237, 238, 241, 242, 243, 244, 245, 248, 249, 250, 251, 252, 255, 256, 257, 258]
def asL12 : List PySem.Addr := [259, 262, 263, 264, 265, 266, 269, 270, 271, 272, 273, 276, 277, 278, 279, 280, 283, 284, 285, 286, 287, 290, 291, 292, 293, 294, 297, 298, 299, 300]
def asL13 : List PySem.Addr := [301, 304, 305, 306, 307, 308, 311, 312, 313, 314, 315, 316, 317, 318, 319, 320, 321, 322, 323, 324, 325, 326, 327, 328, 329, 330, 331, 332, 333, 334]
def asL14 : List PySem.Addr := [335, 336, 337, 338, 339, 340, 341, 342, 343, 344, 345, 346, 347, 348, 349, 350, 351, 352, 353, 354, 355, 356, 357, 358, 359, 360, 363, 364, 365, 366]
def asL15 : List PySem.Addr := [367, 368, 369, 370, 371, 372, 373, 374, 375, 376, 377, 378, 379, 380, 381, 382, 383, 384, 385, 386, 387, 388, 389, 390, 391, 392, 393, 394, 395, 396]
def asL16 : List PySem.Addr := [397, 398, 399, 400, 401, 402, 403, 404, 405, 406, 407, 408, 409, 412, 413, 414, 415, 416, 417, 418, 419, 420, 424, 425, 426, 427, 428, 431, 432, 433]
def asL17 : List PySem.Addr := [434, 435, 438, 439, 440, 441, 442, 445, 446, 447, 448, 449, 452, 453, 454, 455, 456, 459, 460, 461, 462, 463, 466, 467, 468, 469, 470, 473, 474, 475]
def asL18 : List PySem.Addr := [476, 477, 480, 481, 482, 483, 484, 487, 488, 489, 490, 491, 494, 495, 496, 499, 500, 501, 502, 503, 506, 507, 508, 509, 510, 511, 512, 513, 514, 515]
def asL19 : List PySem.Addr := [516, 517, 518, 519, 520, 521, 522, 523, 524, 525, 526, 527, 528, 529, 530, 531, 532, 533, 534, 535, 536, 537, 538, 539, 540, 541, 542, 543, 544, 545]
def asL20 : List PySem.Addr := [546, 547, 548, 549, 550, 551, 552, 553, 554, 555, 556, 557, 558, 559, 560, 561, 562, 563, 564, 565, 566, 567, 568, 569, 572, 573, 574, 575, 576, 577]
def asL21 : List PySem.Addr := [578, 579, 580, 583, 584, 585, 586, 587, 590, 591, 592, 593, 594, 597, 598, 599, 600, 601, 604, 605, 606, 607, 608, 611, 612, 613, 614, 615, 618, 619]
def asL22 : List PySem.Addr := [620, 621, 622, 625, 626, 627, 628, 629, 632, 633, 634, 635, 636, 639, 640, 641, 642, 643, 646, 647, 648, 649, 650, 653, 654, 655, 656, 657, 660, 661]
def asL23 : List PySem.Addr := [662, 663, 664, 667, 668, 669, 670, 671, 674, 675, 676, 677, 678, 681, 682, 683, 684, 685, 688, 689, 690, 691, 692, 695, 696, 697, 700, 701, 702, 703]
def asL24 : List PySem.Addr := [704, 707, 708, 709, 710, 711, 714, 715, 716, 717, 718, 721, 722, 723, 724, 725, 728, 729, 730, 731, 732, 735, 736, 737, 740, 741, 742, 743, 744, 747]
def asL25 : List PySem.Addr := [748, 749]
def asL : List PySem.Addr := asL0 ++ asL1 ++ asL2 ++ asL3 ++ asL4 ++ asL5 ++ asL6 ++ asL7 ++ asL8 ++ asL9 ++ asL10 ++ asL11 ++ asL12 ++ asL13 ++ asL14 ++ asL15 ++ asL16 ++ asL17 ++ asL18 ++ asL19 ++ asL20 ++ asL21 ++ asL22 ++ asL23 ++ asL24 ++ asL25

def hookA (as : List PySem.Addr) (fa : List He.Fa) (fn : List He.DefD) (ex : PySem.W.Frag → Bool) : PySem.W.Hook where
  α := He.AlD × Bool
  obs s := (He.obsD fa fn (He.frG s.heap.get? as), ex (He.frG s.heap.get? as))
  val _ := (He.valD fn, true)
  says _ h := ∃ K, K.In h ∧ He.SaysD fa fn K ∧ ex K = true
  of _ s e := ⟨He.frG s.heap.get? as, He.frG_in, congrArg Prod.fst e, congrArg Prod.snd e⟩
  keeps _ h h' := fun ⟨K, a, b⟩ k => ⟨K, fun x o e => k x o (a x o e), b⟩
/-- an error class over ValueError with its own __init__ -/
def oexB (K : PySem.W.Frag) (x : Str) : Bool :=
  (match List.lookup (He.ga K x) K with
  | some { cls := .type "type", dict := _, data := .cls cd, slots := sl } =>
    match cd.mro, sl.toList with
    | .ref C :: bm, [_, _, _, _, some (.builtin n), _] => decide (C = He.ga K x) && decide (n = "ValueError.__new__") && cd.hasDict && !cd.hasDel && PySem.HandSPX.refsVE bm
    | _, _ => false
  | _ => false) &&
  (decide (PySem.W.findIn K (.ref (He.ga K x)) "__setattr__" = some (some (.builtin "object.__setattr__"))) && (decide (PySem.W.subIn K (.ref (He.ga K x)) (.type "BaseException") = some true) &&
  (decide (PySem.W.typeIn K (.ref (He.ga K x)) = some (.type "type")) && (PySem.W.keepIn K (.ref (He.ga K x)) &&
  (decide (PySem.W.findIn K (.ref (He.ga K x)) "__init__" = some (some (.ref (He.ma K (He.ga K x) "__init__")))) && (decide (PySem.W.typeIn K (.ref (He.ma K (He.ga K x) "__init__")) = some (.type "function")) &&
  (decide (PySem.W.findIn K (.ref (He.ga K x)) "place" = some none) && (decide (PySem.W.exmOne K (.ref (He.ga K x)) (.ref (He.ga K x)) = some true) &&
  (decide (PySem.W.findIn K (.ref (He.ga K x)) "__getattribute__" = some (some (.builtin "BaseException.__getattribute__"))) && (decide (PySem.W.findIn K (.ref (He.ga K x)) "__getattr__" = some none) && PySem.W.hasDictIn K (He.ga K x)))))))))))
def exU (K : PySem.W.Frag) : Bool := oexB K "Unseen"
abbrev R : PySem.W.OpenRow := PySem.W.OpenLaw.row PySem.Challenge.rw_stoodthen_k51_whole_told_at_any_size
abbrev hk : PySem.W.Hook := hookA asL faL fnL exU
def ob (s : PySem.W.SharedT) : He.AlD × Bool := (He.obsD faL fnL (He.frG (HandSHeadRun.getT s) asL), exU (He.frG (HandSHeadRun.getT s) asL))
theorem ob_eq (s : PySem.W.SharedT) : ob s = hk.obs s.abs := by
  have e : HandSHeadRun.getT s = s.abs.heap.get? := funext fun a => HandSHeadRun.getT_eq s a
  show ob s = (He.obsD faL fnL (He.frG s.abs.heap.get? asL), exU (He.frG s.abs.heap.get? asL))
  rw [← e]; rfl
theorem run (w : World) : HandSHeadRun.RunEq R (PySem.W.view R.prog [95]) hk ob 9000 namesL w := by
  intro os
  kernel_rfl
end Sd

set_option maxHeartbeats 4000000
namespace Sd
open PySem PySem.Spec L2
open PyProof.Rows (envOfC)

/-! ### builtin calls -/
def BltD (r : List V → Hp → VK → Prop) (ds : List D) (d : D) : Prop := ∀ B M0 b ρ P σ H vs, StV B M0 b ρ (fun M => AtL M ds vs ∧ P M) σ H → Up P → ∀ Q : VK, (∀ v H2, StV B M0 b ρ (fun M => At M d v ∧ P M) σ H2 → Q v H2) → r vs H Q
section
variable {X : Cx} {ρ ρ1 ρ2 : List Sl} {d d1 d2 d3 : D} {ds es : List D} {e e1 e2 e3 : Expr} {ees : List Expr} {pos p : Pos} {i j : Int} {c : Bool} {x : Str} {id : String}
theorem x_blt {r : List V → Hp → VK → Prop} (hc : CallR X (.builtin id) r) (hr : BltD r ds d) (hm : X.mg x = none) (hv : bootBuiltins x = some (.builtin id)) (ha : PA X (e :: ees) (tAG ρ ρ1 ds)) (hg : Gl X x := by rfl) (hn : x ≠ ("__name__" : Str) := by decide) (hdb : (x == ("__debug__" : Str)) = false := by decide)
    (hs : starEach (e :: ees) X.env = (false, eval e X.env) :: starEach ees X.env := by rfl) (hp : (backTo pos (starEach ees X.env)).any (·.1) = false := by rfl) : PE X (.Call (.Name x p) (e :: ees) [] pos) (tG ρ ρ1 d) :=
  pe_imp (pe_callB hc hg hm hv ha hn hdb hs hp) fun σ H Q ⟨B, M0, b, P, S, k⟩ => ⟨B, M0, b, P, S, fun vs H1 S1 => hr B M0 b ρ1 P σ H1 vs S1 S.up Q k⟩
theorem x_bltT {r : List V → Hp → VK → Prop} {t : String} (hc : CallR X (.type t) r) (hr : BltD r ds d) (hm : X.mg x = none) (hv : bootBuiltins x = some (.type t)) (ha : PA X (e :: ees) (tAG ρ ρ1 ds)) (hg : Gl X x := by rfl) (hn : x ≠ ("__name__" : Str) := by decide) (hdb : (x == ("__debug__" : Str)) = false := by decide)
    (hs : starEach (e :: ees) X.env = (false, eval e X.env) :: starEach ees X.env := by rfl) (hp : (backTo pos (starEach ees X.env)).any (·.1) = false := by rfl) : PE X (.Call (.Name x p) (e :: ees) [] pos) (tG ρ ρ1 d) :=
  pe_imp (pe_callTy hc hg hm hv ha hn hdb hs hp) fun σ H Q ⟨B, M0, b, P, S, k⟩ => ⟨B, M0, b, P, S, fun vs H1 S1 => hr B M0 b ρ1 P σ H1 vs S1 S.up Q k⟩
/-- len of a sequence -/
theorem b_len {K : PySem.W.Frag} (hd : seqD d = some ds) : BltD (fun xs H Q => ∃ p ys, xs = [V.ref p] ∧ (SqL K H p ys ∨ SqT K H p ys) ∧ Q (V.int ys.length) H) [d] (.int ds.length) := fun B M0 b ρ P σ H vs S uP Q k => by
  obtain ⟨M, O⟩ := S.opn
  obtain ⟨x, e, h⟩ := atL_1 O.p.1
  obtain ⟨a, xs, ex, sq, hx⟩ := at_seq (K := K) hd O.c.sub h
  refine ⟨a, xs, by rw [e, ex], sq, ?_⟩
  rw [← hx.len]
  exact k _ H ((S.imp uP fun _ _ q => q.2).put fun _ => rfl)
theorem x_len (hd : seqD d = some ds) (hm : X.mg "len" = none) (h : PE X e (tD ρ d)) (hg : Gl X "len" := by rfl) (hs : starEach (e :: []) X.env = (false, eval e X.env) :: starEach [] X.env := by rfl) (hp : (backTo pos (starEach [] X.env)).any (·.1) = false := by rfl) : PE X (.Call (.Name "len" p) [e] [] pos) (tD ρ (.int ds.length)) :=
  x_blt (call_len_seq (X := X)) (b_len hd) hm PySem.boot_len (a_cons h a_nil hs) hg (by decide) (by decide) hs hp
theorem b_2 {r : List V → Hp → VK → Prop} {f : Int → Int → Int} (hr : ∀ i j H Q, Q (.int (f i j)) H → r [.int i, .int j] H Q) : BltD r [.int i, .int j] (.int (f i j)) := fun B M0 b ρ P σ H vs S uP Q k => by
  obtain ⟨M, _, q, _⟩ := S.know
  obtain ⟨x, y, e, hx, hy⟩ := atL_2 q
  have ex : x = .int i := hx
  have ey : y = .int j := hy
  subst ex; subst ey; subst e
  exact hr i j H Q (k _ H ((S.imp uP fun _ _ q => q.2).put fun _ => rfl))
theorem x_min (hm : X.mg "min" = none) (hc : X.calm = true) (h1 : PE X e1 (tD ρ (.int i))) (h2 : PE X e2 (tD ρ (.int j))) (hg : Gl X "min" := by rfl) (hs : starEach (e1 :: [e2]) X.env = (false, eval e1 X.env) :: starEach [e2] X.env := by rfl) (hs2 : starEach (e2 :: []) X.env = (false, eval e2 X.env) :: starEach [] X.env := by rfl) (hp : (backTo pos (starEach [e2] X.env)).any (·.1) = false := by rfl) :
    PE X (.Call (.Name "min" p) [e1, e2] [] pos) (tD ρ (.int (min i j))) :=
  x_blt (call_min2 hc) (b_2 (f := min) fun i j H Q h => ⟨i, j, rfl, by
    have : (if j < i then j else i) = min i j := by split <;> omega
    rw [this]; exact h⟩) hm (by decide +kernel) (a_cons h1 (a_cons h2 a_nil hs2) hs) hg (by decide) (by decide) hs hp
theorem x_max (hm : X.mg "max" = none) (hc : X.calm = true) (h1 : PE X e1 (tD ρ (.int i))) (h2 : PE X e2 (tD ρ (.int j))) (hg : Gl X "max" := by rfl) (hs : starEach (e1 :: [e2]) X.env = (false, eval e1 X.env) :: starEach [e2] X.env := by rfl) (hs2 : starEach (e2 :: []) X.env = (false, eval e2 X.env) :: starEach [] X.env := by rfl) (hp : (backTo pos (starEach [e2] X.env)).any (·.1) = false := by rfl) :
    PE X (.Call (.Name "max" p) [e1, e2] [] pos) (tD ρ (.int (max i j))) :=
  x_blt (call_max2 hc) (b_2 (f := max) fun i j H Q h => ⟨i, j, rfl, by
    have : (if j > i then j else i) = max i j := by split <;> omega
    rw [this]; exact h⟩) hm (by decide +kernel) (a_cons h1 (a_cons h2 a_nil hs2) hs) hg (by decide) (by decide) hs hp
theorem b_3 {r : List V → Hp → VK → Prop} {f : Int → Int → Int → Int} {n : Int} (hr : ∀ i j n H Q, Q (.int (f i j n)) H → r [.int i, .int j, .int n] H Q) : BltD r [.int i, .int j, .int n] (.int (f i j n)) := fun B M0 b ρ P σ H vs S uP Q k => by
  obtain ⟨M, _, q, _⟩ := S.know
  obtain ⟨x, y, z, e, hx, hy, hz⟩ := atL_3 q
  have ex : x = .int i := hx
  have ey : y = .int j := hy
  have ez : z = .int n := hz
  subst ex; subst ey; subst ez; subst e
  exact hr i j n H Q (k _ H ((S.imp uP fun _ _ q => q.2).put fun _ => rfl))
theorem x_min3 {n : Int} (hm : X.mg "min" = none) (hc : X.calm = true) (h1 : PE X e1 (tD ρ (.int i))) (h2 : PE X e2 (tD ρ (.int j))) (h3 : PE X e3 (tD ρ (.int n))) (hg : Gl X "min" := by rfl) (hs : starEach (e1 :: [e2, e3]) X.env = (false, eval e1 X.env) :: starEach [e2, e3] X.env := by rfl) (hs2 : starEach (e2 :: [e3]) X.env = (false, eval e2 X.env) :: starEach [e3] X.env := by rfl) (hs3 : starEach (e3 :: []) X.env = (false, eval e3 X.env) :: starEach [] X.env := by rfl) (hp : (backTo pos (starEach [e2, e3] X.env)).any (·.1) = false := by rfl) :
    PE X (.Call (.Name "min" p) [e1, e2, e3] [] pos) (tD ρ (.int (min (min i j) n))) :=
  x_blt (call_min3Nu hc) (b_3 (f := fun i j n => min (min i j) n) fun i j n H Q h => ⟨_, _, _, _, rfl, (by
    show nuMin3 (.int i) (.int j) (.int n) = some (.int (min (min i j) n))
    unfold nuMin3
    have h2 : ∀ i j : Int, nuMin2 (.int i) (.int j) = some (.int (min i j)) := fun i j => by
      show some (if decide (j < i) = true then V.int j else V.int i) = some (V.int (min i j))
      by_cases h : j < i
      · rw [if_pos (decide_eq_true h), Int.min_eq_right (by omega)]
      · rw [if_neg (by simp only [decide_eq_true_eq]; exact h), Int.min_eq_left (by omega)]
    rw [h2]; exact h2 _ _), h⟩) hm (by decide +kernel) (a_cons h1 (a_cons h2 (a_cons h3 a_nil hs3) hs2) hs) hg (by decide) (by decide) hs hp
theorem x_max3 {n : Int} (hm : X.mg "max" = none) (hc : X.calm = true) (h1 : PE X e1 (tD ρ (.int i))) (h2 : PE X e2 (tD ρ (.int j))) (h3 : PE X e3 (tD ρ (.int n))) (hg : Gl X "max" := by rfl) (hs : starEach (e1 :: [e2, e3]) X.env = (false, eval e1 X.env) :: starEach [e2, e3] X.env := by rfl) (hs2 : starEach (e2 :: [e3]) X.env = (false, eval e2 X.env) :: starEach [e3] X.env := by rfl) (hs3 : starEach (e3 :: []) X.env = (false, eval e3 X.env) :: starEach [] X.env := by rfl) (hp : (backTo pos (starEach [e2, e3] X.env)).any (·.1) = false := by rfl) :
    PE X (.Call (.Name "max" p) [e1, e2, e3] [] pos) (tD ρ (.int (max (max i j) n))) :=
  x_blt (call_max3Nu hc) (b_3 (f := fun i j n => max (max i j) n) fun i j n H Q h => ⟨_, _, _, _, rfl, (by
    show nuMax3 (.int i) (.int j) (.int n) = some (.int (max (max i j) n))
    unfold nuMax3
    have h2 : ∀ i j : Int, nuMax2 (.int i) (.int j) = some (.int (max i j)) := fun i j => by
      show some (if decide (i < j) = true then V.int j else V.int i) = some (V.int (max i j))
      by_cases h : i < j
      · rw [if_pos (decide_eq_true h), Int.max_eq_right (by omega)]
      · rw [if_neg (by simp only [decide_eq_true_eq]; exact h), Int.max_eq_left (by omega)]
    rw [h2]; exact h2 _ _), h⟩) hm (by decide +kernel) (a_cons h1 (a_cons h2 (a_cons h3 a_nil hs3) hs2) hs) hg (by decide) (by decide) hs hp
/-- int of an int, of a bool -/
theorem x_toInt (hm : X.mg "int" = none) (h1 : PE X e1 (tD ρ (.int i))) (hg : Gl X "int" := by rfl) (hs : starEach (e1 :: []) X.env = (false, eval e1 X.env) :: starEach [] X.env := by rfl) (hp : (backTo pos (starEach [] X.env)).any (·.1) = false := by rfl) : PE X (.Call (.Name "int" p) [e1] [] pos) (tD ρ (.int i)) :=
  x_bltT (call_int1 (X := X)) (fun B M0 b ρ P σ H vs S uP Q k => by
    obtain ⟨M, _, q, _⟩ := S.know
    obtain ⟨x, e, hx⟩ := atL_1 q
    have ex : x = .int i := hx
    subst ex; subst e
    exact .inl ⟨i, rfl, k _ H ((S.imp uP fun _ _ q => q.2).put fun _ => rfl)⟩) hm (by decide +kernel) (a_cons h1 a_nil hs) hg (by decide) (by decide) hs hp
theorem x_blInt (hm : X.mg "int" = none) (h1 : PE X e1 (tD ρ (.bl c))) (hg : Gl X "int" := by rfl) (hs : starEach (e1 :: []) X.env = (false, eval e1 X.env) :: starEach [] X.env := by rfl) (hp : (backTo pos (starEach [] X.env)).any (·.1) = false := by rfl) : PE X (.Call (.Name "int" p) [e1] [] pos) (tD ρ (.int (if c = true then 1 else 0))) :=
  x_bltT (call_int1 (X := X)) (fun B M0 b ρ P σ H vs S uP Q k => by
    obtain ⟨M, _, q, _⟩ := S.know
    obtain ⟨x, e, hx⟩ := atL_1 q
    have ex : x = .bl c := hx
    subst ex; subst e
    exact .inr ⟨c, rfl, k _ H ((S.imp uP fun _ _ q => q.2).put fun _ => rfl)⟩) hm (by decide +kernel) (a_cons h1 a_nil hs) hg (by decide) (by decide) hs hp
/-- isinstance(e, T), T one of the plain types -/
def tyD : D → Option String
  | .non => some "NoneType"
  | .bl _ => some "bool"
  | .int _ => some "int"
  | .str _ => some "str"
  | .tup _ => some "tuple"
  | .lst _ => some "list"
  | .ins _ _ _ => none
  | .tpf _ => none
  | .arg _ _ => none
theorem tyD_of {K : PySem.W.Frag} {M H : Hp} {v : V} {t : String} (h : At M d v) (e : Ex M H) (ht : tyD d = some t) : TyX K H v (.type t) := by
  cases d with
  | ins C ks ds => cases ht
  | tpf ds => cases ht
  | arg K ns => cases ht
  | non => cases ht; have : v = .non := h; subst this; exact .base .non
  | bl c => cases ht; have : v = .bl c := h; subst this; exact .base (.bl c)
  | int c => cases ht; have : v = .int c := h; subst this; exact .base (.int c)
  | str c => cases ht; have : v = .str c := h; subst this; exact .base (.str c)
  | tup ds =>
    cases ht
    obtain ⟨a, xs, ev, hx, _⟩ := h
    subst ev
    rcases e.rd hx with h | ⟨o, h⟩
    · exact .base (.tup h)
    · exact .fTuple h
  | lst ds =>
    cases ht
    obtain ⟨a, xs, ev, hx, _⟩ := h
    subst ev
    exact .base (.lst (e _ _ hx))
theorem x_isi {T t : String} {ty : Str} {p2 : Pos} (ht : tyD d = some t) (hk : kitB t T = some c) (hm : X.mg "isinstance" = none) (hmT : X.mg ty = none) (hv : bootBuiltins ty = some (.type T)) (h1 : PE X e1 (tD ρ d)) (hg : Gl X "isinstance" := by rfl) (hgT : Gl X ty := by rfl) (hn : ty ≠ ("__name__" : Str) := by decide) (hdb : (ty == ("__debug__" : Str)) = false := by decide)
    (hs : starEach (e1 :: [.Name ty p2]) X.env = (false, eval e1 X.env) :: starEach [.Name ty p2] X.env := by rfl) (hs2 : starEach [.Name ty p2] X.env = (false, eval (.Name ty p2) X.env) :: starEach [] X.env := by rfl) (hp : (backTo pos (starEach [.Name ty p2] X.env)).any (·.1) = false := by rfl) :
    PE X (.Call (.Name "isinstance" p) [e1, .Name ty p2] [] pos) (tD ρ (.bl c)) :=
  pe_imp (pe_callB call_isi hg hm PyProof.Rows.boot_isinstance (pa_cons h1 (pa_cons (pe_bltn (v := .ty T) hgT hmT hv rfl hn hdb) pa_nil hs2) hs) (by decide) (by decide) hs hp) fun σ H Q ⟨B, M0, b, P, S, k⟩ => ⟨B, M0, b, P, S, fun x H1 S1 => by
    obtain ⟨M, e, q, _⟩ := S1.know
    refine ⟨x, .ty T, .type t, .type T, c, rfl, .ty T, tyD_of q e ht, kit_ty hk, k _ H1 ((S1.imp S.up fun _ _ q => q.2).put fun _ => rfl)⟩⟩
/-- all([..]) of bools -/
theorem b_all {K : PySem.W.Frag} {bs : List Bool} : BltD (rAll K) [.lst (bs.map D.bl)] (.bl (bs.all (fun b => b))) := fun B M0 b ρ P σ H vs S uP Q k => by
  obtain ⟨M, O⟩ := S.opn
  obtain ⟨x, e, a, xs, ex, hx, ax⟩ := atL_1 O.p.1
  have hb : ∀ (bs : List Bool) (xs : List V), AtL M (bs.map D.bl) xs → xs = bs.map V.bl := fun bs => by
    induction bs with
    | nil => intro xs h; exact h
    | cons c bs ih =>
      rintro xs ⟨x, r, e, h1, h2⟩
      have : x = .bl c := h1
      subst this
      rw [e, ih r h2]; rfl
  have := hb bs xs ax
  subst this
  exact ⟨a, bs, by rw [e, ex], .inl (.inl (O.c.sub _ _ hx)), k _ H ((S.imp uP fun _ _ q => q.2).put fun _ => rfl)⟩
theorem x_all {bs : List Bool} (hm : X.mg "all" = none) (hc : X.calm = true) (h1 : PE X e1 (tD ρ (.lst (bs.map D.bl)))) (hg : Gl X "all" := by rfl) (hs : starEach (e1 :: []) X.env = (false, eval e1 X.env) :: starEach [] X.env := by rfl) (hp : (backTo pos (starEach [] X.env)).any (·.1) = false := by rfl) : PE X (.Call (.Name "all" p) [e1] [] pos) (tD ρ (.bl (bs.all (fun b => b)))) :=
  x_blt (cr_all hc) b_all hm (by decide +kernel) (a_cons h1 a_nil hs) hg (by decide) (by decide) hs hp
/-- tuple of a list, of a tuple -/
theorem x_tupL (hm : X.mg "tuple" = none) (h1 : PE X e1 (tG ρ ρ1 (.lst ds))) (hg : Gl X "tuple" := by rfl) (hs : starEach (e1 :: []) X.env = (false, eval e1 X.env) :: starEach [] X.env := by rfl) (hp : (backTo pos (starEach [] X.env)).any (·.1) = false := by rfl) : PE X (.Call (.Name "tuple" p) [e1] [] pos) (tG ρ ρ1 (.tup ds)) :=
  x_bltT (call_tuple_of (X := X)) (fun B M0 b ρ P σ H vs S uP Q k => by
    obtain ⟨M, O⟩ := S.opn
    obtain ⟨x, e, a, xs, ex, hx, ax⟩ := atL_1 O.p.1
    refine ⟨a, xs, by rw [e, ex], .inl ⟨.inl (.inl (O.c.sub _ _ hx)), fun l hl => ?_⟩⟩
    exact k _ _ ((StV.newTup (S.back O (Core.refl O.c.sub) (G := fun M => AtL M ds xs) (Up.atL _ _) ax) ((Up.atL _ _).and uP) hl).imp ((Up.at _ _).and uP) fun _ _ q => ⟨q.1, q.2.2⟩)) hm (by decide +kernel) (a_cons h1 a_nil hs) hg (by decide) (by decide) hs hp
theorem x_divmod {n : Nat} (hm : X.mg "divmod" = none) (h1 : PE X e1 (tD ρ (.int i))) (h2 : PE X e2 (tD ρ (.int j))) (h0 : 0 < j) (hb : CDivP i j) (hg : Gl X "divmod" := by rfl) (hs : starEach (e1 :: [e2]) X.env = (false, eval e1 X.env) :: starEach [e2] X.env := by rfl) (hs2 : starEach (e2 :: []) X.env = (false, eval e2 X.env) :: starEach [] X.env := by rfl) (hp : (backTo pos (starEach [e2] X.env)).any (·.1) = false := by rfl) :
    PE X (.Call (.Name "divmod" p) [e1, e2] [] pos) (tD ρ (.tup [.int (i / j), .int (i % j)])) :=
  x_blt (call_divmodW (X := X)) (fun B M0 b ρ P σ H vs S uP Q k => by
    obtain ⟨M, _, q, _⟩ := S.know
    obtain ⟨x, y, e, hx, hy⟩ := atL_2 q
    have ex : x = .int i := hx
    have ey : y = .int j := hy
    subst ex; subst ey
    refine ⟨i, j, e, hb, fun p hp => k _ _ (StV.newTup (ds := [.int (i / j), .int (i % j)]) ((S.imp uP fun _ _ q => q.2).imp ((Up.atL _ _).and uP) fun M _ q => ⟨⟨_, _, rfl, rfl, _, _, rfl, rfl, rfl⟩, q⟩) uP hp)⟩) hm (by decide +kernel) (a_cons h1 (a_cons h2 a_nil hs2) hs) hg (by decide) (by decide) hs hp
end
end Sd

namespace Sd
open PySem PySem.Spec L2
open PyProof.Rows (envOfC)

/-! ### what the head leaves, by names -/
structure Hd (K : PySem.W.Frag) (mg : Str → Option Value) : Prop where
  d : He.SaysD faL fnL K
  e : exU K = true
  i : ∃ h, K.In h ∧ h.Ns mainGlobals mg
section
variable {K : PySem.W.Frag} {mg : Str → Option Value} {x m f : Str}
theorem Hd.glo (h : Hd K mg) (i : Nat) (e : faL[i]? = some (.glo x) := by rfl) : mg x = some (.ref (He.ga K x)) := let ⟨_, a, b⟩ := h.i; He.glo_ok a b (h.d.fact i e)
theorem Hd.free (h : Hd K mg) (i : Nat) (e : faL[i]? = some (.free x) := by rfl) : mg x = none := let ⟨_, a, b⟩ := h.i; He.free_ok a b (h.d.fact i e)
theorem Hd.cls (h : Hd K mg) (i : Nat) (e : faL[i]? = some (.cls x) := by rfl) : Cls K (He.ga K x) := He.cls_ok (h.d.fact i e)
theorem Hd.noat (h : Hd K mg) (i : Nat) (e : faL[i]? = some (.noat x f) := by rfl) : NoAttr K (He.ga K x) f := He.noat_ok (h.d.fact i e)
theorem Hd.meth (h : Hd K mg) (i : Nat) (e : faL[i]? = some (.meth x m) := by rfl) : Meth K (He.ga K x) m (He.ma K (He.ga K x) m) := He.meth_ok (h.d.fact i e)
theorem Hd.mkr (h : Hd K mg) (i : Nat) (e : faL[i]? = some (.mkr x) := by rfl) : Mk K (He.ga K x) (He.ma K (He.ga K x) "__init__") := He.mkr_ok (h.d.fact i e)
end

/-! ### the world of all defs, what a def keeps -/
structure Wo where
  P : Program
  w : World
  K : PySem.W.Frag
  mg : Str → Option Value
  base : Heap
abbrev cuA (K : PySem.W.Frag) : Addr := He.ga K "Unseen"
abbrev Wo.hd (Y : Wo) : Prop := Hd Y.K Y.mg
/-- the def named x keeps the promise sp -/
structure FoS (Y : Wo) (k : Nat) (x : Str) (ps : List Str) (dsv : List Value) (sp : Sp) : Prop where
  ex : ∃ fd, FnOk Y.P Y.w Y.K Y.mg Y.base (L2.CX Y.P Y.w) k (He.ga Y.K x) fd ps sp ∧ L2.Binds Y.K fd ps dsv
  g : Y.mg x = some (.ref (He.ga Y.K x))
  kp : PySem.W.keepIn Y.K (.ref (He.ga Y.K x)) = true
abbrev Fo (Y : Wo) (k : Nat) (x : Str) (ps : List Str) (F : List D → Res → Prop) : Prop := FoS Y k x ps [] (spF (cuA Y.K) F)
abbrev FoB (Y : Wo) (k : Nat) (x : Str) (ps : List Str) (F : List D → List D → List D → D → Prop) : Prop := FoS Y k x ps [] (spB F)
abbrev FoO (Y : Wo) (k : Nat) (x : Str) (ps : List Str) (F : List D → List D → Prop) : Prop := FoS Y k x ps [] (spO F)
/-- the inside of a def -/
abbrev cxY (Y : Wo) (d : He.DefD) (N : List Str) (f : Addr) (cdv : Value) (A : Around) (outer : List Env) (s : Shared) (H : Hp) (E : XK) : Cx := cxOf (L2.CX Y.P Y.w) Y.P Y.w Y.K Y.mg Y.base N d.qual d.scope f cdv A outer s H E
abbrev BindQ (d : He.DefD) (ps : List Str) : Prop := ∀ (kV doc pm : Value) (an : Option Addr) (cdv ct : Value) (us : List Value), us.length = ps.length → bindArgs (PySem.W.fnOf d.name d.qual d.params d.body d.scope .none kV doc pm an cdv ct) { pos := us } = pure (ps.zip us)
section
variable {Y : Wo} {x : Str} {ps N : List Str} {k : Nat}
theorem mkS {sp : Sp} (hh : Y.hd) (i : Nat) (d : He.DefD) (hd : fnL[i]? = some d) (hj : faL[i]? = some (.glo x)) (hat : d.at_ = (x, none)) (hv : d.dfl = []) (bq : BindQ d ps)
    (hb : ∀ fd, FunD Y.K d.name d.qual d.params d.body d.scope [] (He.DefD.kws Y.K d) (He.ga Y.K x) fd → FnOk Y.P Y.w Y.K Y.mg Y.base (L2.CX Y.P Y.w) k (He.ga Y.K x) fd ps sp) : FoS Y k x ps [] sp := by
  obtain ⟨fd, Fn⟩ := hh.d.def_ i hd
  have ea : He.fAd Y.K d.at_ = He.ga Y.K x := by rw [hat]; rfl
  have ed : He.DefD.dvs Y.K d = [] := by
    have : He.DefD.dvs Y.K d = d.dfl.map (He.Dv.v Y.K) := rfl
    rw [this, hv]; rfl
  rw [ea, ed] at Fn
  exact ⟨⟨fd, hb fd Fn, FunD.bindsN Fn bq⟩, hh.glo i hj, Fn.kp⟩
theorem mkF {F : List D → Res → Prop} (hh : Y.hd) (i : Nat) (d : He.DefD) (S : FnScope N ps d.scope) (bq : BindQ d ps) (hl : ∀ ds r, F ds r → ds.length = ps.length)
    (hb : ∀ (cdv : Value) (A : Around) (outer : List Env) (s : Shared) (H : Hp) (E : XK) (ds : List D) (r : Res), Room k (cxY Y d N (He.ga Y.K x) cdv A outer s H E).A → F ds r → PSs (cxY Y d N (He.ga Y.K x) cdv A outer s H E) d.body (tS (wE E) (cuA Y.K) (entry N ds) (outF (anys N.length) r)))
    (hd : fnL[i]? = some d := by rfl) (hj : faL[i]? = some (.glo x) := by rfl) (hat : d.at_ = (x, none) := by rfl) (hv : d.dfl = [] := by rfl) : Fo Y (k + 1) x ps F :=
  mkS hh i d hd hj hat hv bq fun fd Fn => okF Fn S hl fun cdv A outer s H E ds r hr h => ⟨_, hb cdv A outer s H E ds r hr h⟩
theorem mkB {F : List D → List D → List D → D → Prop} (hh : Y.hd) (i : Nat) (d : He.DefD) (S : FnScope N ps d.scope) (bq : BindQ d ps) (hl : ∀ bs ds cs r, F bs ds cs r → ds.length + 1 = ps.length)
    (hb : ∀ (cdv : Value) (A : Around) (outer : List Env) (s : Shared) (H : Hp) (E : XK) (bs ds cs : List D) (r : D), Room k (cxY Y d N (He.ga Y.K x) cdv A outer s H E).A → F bs ds cs r → ∃ ρf, PSs (cxY Y d N (He.ga Y.K x) cdv A outer s H E) d.body (tS (wE E) (cuA Y.K) (entryB N bs ds) (.rt (.box (.lst cs) :: ρf) r)))
    (hd : fnL[i]? = some d := by rfl) (hj : faL[i]? = some (.glo x) := by rfl) (hat : d.at_ = (x, none) := by rfl) (hv : d.dfl = [] := by rfl) : FoB Y (k + 1) x ps F :=
  mkS hh i d hd hj hat hv bq fun fd Fn => okB Fn S hl hb
theorem mkO {F : List D → List D → Prop} (hh : Y.hd) (i : Nat) (d : He.DefD) (S : FnScope N ps d.scope) (bq : BindQ d ps) (hl : ∀ ds r, F ds r → ds.length = ps.length)
    (hb : ∀ (cdv : Value) (A : Around) (outer : List Env) (s : Shared) (H : Hp) (E : XK) (ds rs : List D), Room k (cxY Y d N (He.ga Y.K x) cdv A outer s H E).A → F ds rs → ∃ ρf, PSs (cxY Y d N (He.ga Y.K x) cdv A outer s H E) d.body (tS (wE E) (cuA Y.K) (entry N ds) (.rn ρf rs)))
    (hd : fnL[i]? = some d := by rfl) (hj : faL[i]? = some (.glo x) := by rfl) (hat : d.at_ = (x, none) := by rfl) (hv : d.dfl = [] := by rfl) : FoO Y (k + 1) x ps F :=
  mkS hh i d hd hj hat hv bq fun fd Fn => okO Fn S hl hb
end
section
variable {X : Cx} {W : WX} {ρ ρ1 : List Sl} {d : D} {ds : List D} {r : Res} {F : List D → Res → Prop} {j k : Nat} {ps : List Str} {x : Str} {p pos : Pos} {e : Expr} {es : List Expr}
/-- f(..) that raises nothing here -/
theorem x_f (G : Fo ⟨X.prog, X.w, X.K, X.mg, X.base⟩ j x ps F) (hr : Room k X.A) (ha : PA X (e :: es) (tAG ρ ρ1 ds)) (hF : F ds (.ok d)) (hj : j ≤ k := by decide) (hg : Gl X x := by rfl) (hdb : (x == ("__debug__" : Str)) = false := by decide) (he : starEach (e :: es) X.env = (false, eval e X.env) :: starEach es X.env := by rfl) (hpl : (backTo pos (starEach es X.env)).any (·.1) = false := by rfl) :
    PE X (.Call (.Name x p) (e :: es) [] pos) (tG ρ ρ1 d) := let ⟨_, G1, b1⟩ := G.ex; x_call G1 (hr.mono hj) G.g G.kp b1 ha hF hg hdb he hpl
/-- f(..) that may raise -/
theorem x_fX (G : Fo ⟨X.prog, X.w, X.K, X.mg, X.base⟩ j x ps F) (hr : Room k X.A) (tk : Takes X W) (ha : PA X (e :: es) (tA' ρ ds)) (hF : F ds r) (hj : j ≤ k := by decide) (hg : Gl X x := by rfl) (hdb : (x == ("__debug__" : Str)) = false := by decide) (he : starEach (e :: es) X.env = (false, eval e X.env) :: starEach es X.env := by rfl) (hpl : (backTo pos (starEach es X.env)).any (·.1) = false := by rfl) :
    PE X (.Call (.Name x p) (e :: es) [] pos) (tX W (cuA X.K) ρ r) := let ⟨_, G1, b1⟩ := G.ex; x_callX G1 (hr.mono hj) G.g G.kp b1 tk ha hF hg hdb he hpl
/-- f(xs, ..) that changes the list at slot n -/
theorem x_fB {bs cs : List D} {F : List D → List D → List D → D → Prop} {y : Str} {q : Pos} {s : Sl} (n : Nat) (G : FoB ⟨X.prog, X.w, X.K, X.mg, X.base⟩ j x ps F) (hr : Room k X.A) (ha : PA X es (tA' ρ ds)) (h0 : ρ[n]? = some s) (hs : s = .own (.lst bs) ∨ s = .box (.lst bs)) (hF : F bs ds cs d) (hj : j ≤ k := by decide) (hN : X.N[n]? = some y := by rfl)
    (hv : Vis X.env.scope y := by first | exact Or.inl rfl | exact Or.inr (Or.inl rfl) | exact Or.inr (Or.inr rfl)) (hdy : (y == ("__debug__" : Str)) = false := by decide) (hcd : (y == ("__classdict__" : Str)) = false := by decide)
    (hg : Gl X x := by rfl) (hdb : (x == ("__debug__" : Str)) = false := by decide) (he : starEach (.Name y q :: es) X.env = (false, eval (.Name y q) X.env) :: starEach es X.env := by rfl) (hpl : (backTo pos (starEach es X.env)).any (·.1) = false := by rfl) :
    PE X (.Call (.Name x p) (.Name y q :: es) [] pos) (tG ρ (ρ.set n (reSl s (.lst cs))) d) := let ⟨_, G1, b1⟩ := G.ex; x_callB n G1 (hr.mono hj) G.g G.kp b1 ha h0 hs hF hN hv hdy hcd hg hdb he hpl
end

theorem sa {n : Nat} {ρ : List Sl} (h : n = ρ.length := by rfl) : SubL (anys n) ρ := by subst h; exact SubL.anys ρ
section
variable {X : Cx} {W : WX} {CU : Addr} {ρ : List Sl} {ys : List D} {it : Expr} {pos p : Pos} {body : List Stmt} {o : Out} {x : Str}
/-- for x in ..: x at slot n -/
theorem s_forN (n : Nat) (nd : X.N.Nodup) (hi : PI X (.Name x p) it (tI ρ ys)) (R : Nat → List Sl) (h0 : SubL (R 0) ρ) (hb : ∀ (i : Nat) d, ys[i]? = some d → PSs X body (tS W CU ((R i).set n (.val d)) (.nx (R (i + 1)))))
    (hp : PassesOwn (model X.prog X.w) X.A X.env X.xe := by exact passes_of rfl) (hc : X.calm = true := by rfl) (hN : X.N[n]? = some x := by rfl) (hx : Loc X.env.scope x := by first | exact Or.inl rfl | exact Or.inr rfl)
    (hf : X.fn x = true ∨ X.env.scope.names.lookup x = some .local := by first | exact .inl rfl | exact .inr rfl | assumption) (hs : ∀ x, foldedSetIterable it X.env x = pure x := by intro _; rfl) : PS X (.For (.Name x p) it body [] pos) (tS W CU ρ (.nx (R ys.length))) :=
  s_for hp hc hi (pg_name nd hN hx hf) R (fun i => (R i).set n (.val (ys.getD i .non))) h0 (fun i d hi => by
    have e : ys.getD i .non = d := by rw [List.getD_eq_getElem?_getD, hi]; rfl
    show TgD _ _ _ ((R i).set n (.val (ys.getD i .non)))
    rw [e]; exact tg_name) (fun i d hi => by
    have e : ys.getD i .non = d := by rw [List.getD_eq_getElem?_getD, hi]; rfl
    show PSs X body (tS W CU ((R i).set n (.val (ys.getD i .non))) _)
    rw [e]; exact hb i d hi) hs
/-- .. that may leave at turn m -/
theorem s_forNX (n m : Nat) (nd : X.N.Nodup) (hi : PI X (.Name x p) it (tI ρ ys)) (R : Nat → List Sl) (h0 : SubL (R 0) ρ) (hm : m < ys.length) (hb : ∀ (i : Nat) d, ys[i]? = some d → i < m → PSs X body (tS W CU ((R i).set n (.val d)) (.nx (R (i + 1)))))
    (ho : loopOut o) (hl : ∀ d, ys[m]? = some d → PSs X body (tS W CU ((R m).set n (.val d)) o))
    (hp : PassesOwn (model X.prog X.w) X.A X.env X.xe := by exact passes_of rfl) (hc : X.calm = true := by rfl) (hN : X.N[n]? = some x := by rfl) (hx : Loc X.env.scope x := by first | exact Or.inl rfl | exact Or.inr rfl)
    (hf : X.fn x = true ∨ X.env.scope.names.lookup x = some .local := by first | exact .inl rfl | exact .inr rfl | assumption) (hs : ∀ x, foldedSetIterable it X.env x = pure x := by intro _; rfl) : PS X (.For (.Name x p) it body [] pos) (tS W CU ρ o) :=
  s_forG m (by omega) hp hc hi (pg_name nd hN hx hf) (R := R) (R1 := fun i => (R i).set n (.val (ys.getD i .non))) h0 (fun i d hi _ => by
    have e : ys.getD i .non = d := by rw [List.getD_eq_getElem?_getD, hi]; rfl
    show TgD _ _ _ ((R i).set n (.val (ys.getD i .non)))
    rw [e]; exact tg_name) (fun i d hi hlt => by
    have e : ys.getD i .non = d := by rw [List.getD_eq_getElem?_getD, hi]; rfl
    show PSs X body (tS W CU ((R i).set n (.val (ys.getD i .non))) _)
    rw [e]; exact hb i d hi hlt) (.inr ⟨hm, ho, by
    have e : ys[m]? = some (ys.getD m .non) := by rw [List.getD_eq_getElem?_getD, List.getElem?_eq_getElem hm]; rfl
    exact hl _ e⟩) hs
end

/-! ### products -/
def pr : List Int → Int
  | [] => 1
  | a :: l => a * pr l
theorem pr_app : ∀ (l m : List Int), pr (l ++ m) = pr l * pr m
  | [], m => by simp [pr]
  | a :: l, m => by simp only [List.cons_append, pr, pr_app l m, Int.mul_assoc]
theorem pr_snoc (l : List Int) (a : Int) : pr (l ++ [a]) = pr l * a := by rw [pr_app]; simp [pr]
theorem pr_take {l : List Int} {i : Nat} (h : i < l.length) : pr (l.take (i + 1)) = pr (l.take i) * l[i] := by
  rw [List.take_succ_eq_append_getElem h, pr_snoc]
/-- sizes: at most 40, each of at most 41 bits -/
structure SzB (ns : List Int) : Prop where
  len : ns.length ≤ 40
  two : ∀ n ∈ ns, 2 ≤ n
  bits : ∀ n ∈ ns, Bd 41 n
theorem pr_bd : ∀ {ns : List Int}, (∀ n ∈ ns, Bd 41 n) → Bd (41 * ns.length + 1) (pr ns)
  | [], _ => by show (1 : Int).natAbs < 2 ^ 1; decide
  | a :: l, h => by
    have h1 := (h a List.mem_cons_self).mul (pr_bd fun n hn => h n (List.mem_cons_of_mem _ hn))
    exact h1.mono (by simp only [List.length_cons]; omega)
theorem pr_pos : ∀ {ns : List Int}, (∀ n ∈ ns, 2 ≤ n) → 0 < pr ns
  | [], _ => by decide
  | a :: l, h => Int.mul_pos (by have := h a List.mem_cons_self; omega) (pr_pos fun n hn => h n (List.mem_cons_of_mem _ hn))
/-- a number of at most 4000 bits: all that the program multiplies, divides by -/
abbrev Sm (i : Int) : Prop := Bd 4000 i
theorem SzB.take {ns : List Int} (h : SzB ns) (i : Nat) : SzB (ns.take i) := ⟨by rw [List.length_take]; have := h.len; omega, fun n hn => h.two n (List.mem_of_mem_take hn), fun n hn => h.bits n (List.mem_of_mem_take hn)⟩
theorem SzB.drop {ns : List Int} (h : SzB ns) (i : Nat) : SzB (ns.drop i) := ⟨by rw [List.length_drop]; have := h.len; omega, fun n hn => h.two n (List.mem_of_mem_drop hn), fun n hn => h.bits n (List.mem_of_mem_drop hn)⟩
theorem SzB.bd {ns : List Int} (h : SzB ns) : Bd 1641 (pr ns) := (pr_bd h.bits).mono (by have := h.len; omega)
theorem SzB.sm {ns : List Int} (h : SzB ns) : Sm (pr ns) := h.bd.mono (by decide)
theorem SzB.pos {ns : List Int} (h : SzB ns) : 0 < pr ns := pr_pos h.two
theorem SzB.get {ns : List Int} (h : SzB ns) {i : Nat} (hi : i < ns.length) : 2 ≤ ns[i] ∧ Bd 41 ns[i] := ⟨h.two _ (List.getElem_mem hi), h.bits _ (List.getElem_mem hi)⟩
theorem SzB.getSm {ns : List Int} (h : SzB ns) {i : Nat} (hi : i < ns.length) : Sm ns[i] := (h.get hi).2.mono (by decide)
theorem Sm.le {i j : Int} (h : Sm j) (h0 : 0 ≤ i) (h1 : i ≤ j) : Sm i := Bd.le h h0 h1
theorem dInts_get {ns : List Int} {i : Nat} {d : D} (h : (dInts ns)[i]? = some d) : ∃ hi : i < ns.length, d = .int ns[i] := by
  have hi : i < ns.length := by have := (List.getElem?_eq_some_iff.mp h).1; simpa using this
  refine ⟨hi, ?_⟩
  rw [List.getElem?_map, List.getElem?_eq_getElem hi] at h
  exact (Option.some.inj h).symm
theorem dInts_len (ns : List Int) : (dInts ns).length = ns.length := List.length_map ..
section
variable {X : Cx} {ρ ρ1 ρ2 : List Sl} {e1 e2 : Expr} {pos : Pos} {i j : Int}
theorem x_mulS (h1 : PE X e1 (tG ρ ρ1 (.int i))) (h2 : PE X e2 (tG ρ1 ρ2 (.int j))) (b1 : Sm i) (b2 : Sm j) : PE X (.BinOp e1 .Mult e2 pos) (tG ρ ρ2 (.int (i * j))) := x_mul h1 h2 b1 b2 (by decide)
theorem x_divS (h1 : PE X e1 (tG ρ ρ1 (.int i))) (h2 : PE X e2 (tG ρ1 ρ2 (.int j))) (h0 : 0 < j) (b2 : Sm j) : PE X (.BinOp e1 .FloorDiv e2 pos) (tG ρ ρ2 (.int (i / j))) := x_div h1 h2 h0 b2 (by decide)
end
section
variable {Y : Wo} (hh : Y.hd)
include hh
/-! ### c_product -/
def F_c_product (ds : List D) (r : Res) : Prop := ∃ ns : List Int, ds = [.tup (dInts ns)] ∧ r = .ok (.int (pr ns)) ∧ SzB ns
theorem sc_c_product : FnScope ["numbers", "whole", "number"] ["numbers"] (defScope s_c_product) := ⟨rfl, rfl, rfl, by decide +kernel, rfl, by decide +kernel, by decide +kernel⟩
theorem fo_c_product : Fo Y 1 "c_product" ["numbers"] F_c_product := by
  refine mkF (k := 0) (N := ["numbers", "whole", "number"]) hh 6 ds_c_product (sc_c_product hh) (fun _ _ _ _ _ _ us hl => match us, hl with | [_], _ => rfl) (fun ds r ⟨ns, e, _⟩ => by rw [e]; rfl) ?_
  rintro cdv A outer s H E ds r hr ⟨ns, rfl, rfl, hs⟩
  have nd := (sc_c_product hh).nd
  refine s_seq (s_set 1 nd x_int) ?_
  refine s_seq (s_forN 2 nd (i_tup (x_v 0)) (fun i => [.val (.tup (dInts ns)), .val (.int (pr (ns.take i))), .any]) ⟨.inr rfl, .inr rfl, .inl rfl, trivial⟩ (fun i d hi => ?_)) ?_
  · obtain ⟨hl, rfl⟩ := dInts_get hi
    refine s_seq (s_set 1 nd (x_mulS (x_v 1) (x_v 2) (hs.take i).sm (hs.getSm hl))) ?_
    exact s_nil ⟨.inr rfl, .inr (by rw [pr_take hl]), .inl rfl, trivial⟩
  · refine s_cast (ρ' := [.val (.tup (dInts ns)), .val (.int (pr ns)), .any]) (by rw [dInts_len, List.take_length]) ?_
    exact r_ret (x_v 1) sa
end
end Sd

namespace Sd
open PySem PySem.Spec L2
open PyProof.Rows (envOfC)

section
variable {K : PySem.W.Frag} {mg : Str → Option Value} (h : Hd K mg)
include h
theorem Hd.b_len : mg "len" = none := h.free 77
theorem Hd.b_range : mg "range" = none := h.free 78
theorem Hd.b_min : mg "min" = none := h.free 79
theorem Hd.b_max : mg "max" = none := h.free 80
theorem Hd.b_isinstance : mg "isinstance" = none := h.free 81
theorem Hd.b_int : mg "int" = none := h.free 82
theorem Hd.b_bool : mg "bool" = none := h.free 83
theorem Hd.b_str : mg "str" = none := h.free 84
theorem Hd.b_tuple : mg "tuple" = none := h.free 85
theorem Hd.b_list : mg "list" = none := h.free 86
theorem Hd.b_reversed : mg "reversed" = none := h.free 87
theorem Hd.b_zip : mg "zip" = none := h.free 88
theorem Hd.b_enumerate : mg "enumerate" = none := h.free 89
theorem Hd.b_divmod : mg "divmod" = none := h.free 90
theorem Hd.b_all : mg "all" = none := h.free 91
end

/-! ### == of tuples of ints -/
def pInts (ns : List Int) : List PyData := ns.map PyData.int
theorem dpAll_ints {K : PySem.W.Frag} {H : Hp} : ∀ (ns : List Int), DpAll K H (ns.map V.int) (pInts ns)
  | [] => .nil
  | n :: ns => .cons (.int n) (dpAll_ints ns)
theorem eqvAll_ints : ∀ (ns ms : List Int), PyData.eqvAll (pInts ns) (pInts ms) = decide (ns = ms)
  | [], [] => by simp [pInts, PyData.eqvAll]
  | [], m :: ms => by simp [pInts, PyData.eqvAll]
  | n :: ns, [] => by simp [pInts, PyData.eqvAll]
  | n :: ns, m :: ms => by
    have ih := eqvAll_ints ns ms
    unfold pInts at ih ⊢
    rw [List.map_cons, List.map_cons]
    simp only [PyData.eqvAll, PyData.eqv]
    rw [ih]
    by_cases a : n = m <;> by_cases b : ns = ms <;> simp [a, b]
theorem canLay_ints : ∀ (ns : List Int), PyData.canLayAll0 (pInts ns) = true
  | [] => by simp [pInts, PyData.canLayAll0]
  | n :: ns => by
    have ih := canLay_ints ns
    unfold pInts at ih ⊢
    rw [List.map_cons]
    simp only [PyData.canLayAll0, PyData.canLay0, Bool.true_and]; exact ih
theorem depth_ints : ∀ (ns : List Int), PyData.depthAll (pInts ns) = 0
  | [] => by simp [pInts, PyData.depthAll]
  | n :: ns => by
    have ih := depth_ints ns
    unfold pInts at ih ⊢
    rw [List.map_cons]
    simp only [PyData.depthAll, PyData.depth]; rw [ih]; rfl
theorem shaped_ints (ns : List Int) : SeqAt.shaped (.tuple (pInts ns)) = true := by
  unfold SeqAt.shaped
  simp only [PyData.canLay0, PyData.depth, canLay_ints, depth_ints]; decide
theorem dp_ints {K : PySem.W.Frag} {M H : Hp} {ns : List Int} {v : V} (h : At M (.tup (dInts ns)) v) (e : Ex M H) : Dp K H v (.tuple (pInts ns)) := by
  obtain ⟨a, xs, ev, hx, ax⟩ := h
  subst ev
  have := ax.ints
  subst this
  exact .tup (.inl (e.rd hx)) (dpAll_ints ns)
section
variable {X : Cx} {ρ ρ1 ρ2 : List Sl} {d d1 d2 d3 : D} {ds es : List D} {e e1 e2 e3 : Expr} {ees : List Expr} {pos p : Pos} {i j : Int} {c : Bool} {x : Str} {ns ms : List Int} {k : Nat}
theorem roomU64 {A : Around} (h : Room k A) : A.units + 64 < cLine := by have := h.un; omega
theorem op2_eqT {K : PySem.W.Frag} : Op2 (rEqD K) (.tup (dInts ns)) (.tup (dInts ms)) (.bl (decide (ns = ms))) := fun B M0 b ρ P σ H x y S uP Q kk => by
  obtain ⟨⟨M, e, h2, h1⟩, S'⟩ := S.two uP
  refine ⟨_, _, dp_ints h1 e, dp_ints h2 e, shaped_ints ns, shaped_ints ms, ?_⟩
  have : PyData.eqv (.tuple (pInts ns)) (.tuple (pInts ms)) = decide (ns = ms) := by simp only [PyData.eqv]; exact eqvAll_ints ns ms
  rw [this]
  exact kk _ H (S'.put fun _ => rfl)
theorem op2_neT {K : PySem.W.Frag} : Op2 (rNeD K) (.tup (dInts ns)) (.tup (dInts ms)) (.bl (!decide (ns = ms))) := fun B M0 b ρ P σ H x y S uP Q kk => by
  obtain ⟨⟨M, e, h2, h1⟩, S'⟩ := S.two uP
  refine ⟨_, _, dp_ints h1 e, dp_ints h2 e, shaped_ints ns, shaped_ints ms, ?_⟩
  have : PyData.eqv (.tuple (pInts ns)) (.tuple (pInts ms)) = decide (ns = ms) := by simp only [PyData.eqv]; exact eqvAll_ints ns ms
  rw [this]
  exact kk _ H (S'.put fun _ => rfl)
theorem t_eqT (hr : Room k X.A) (h1 : PE X e1 (tG ρ ρ1 (.tup (dInts ns)))) (h2 : PE X e2 (tG ρ1 ρ2 (.tup (dInts ms)))) : PT X (.Compare e1 [.Eq] [e2] pos) (tTG ρ ρ2 (decide (ns = ms))) := t_cmp (op_eqD (roomU64 hr)) op2_eqT h1 h2 (nomark _)
theorem t_neT (hr : Room k X.A) (h1 : PE X e1 (tG ρ ρ1 (.tup (dInts ns)))) (h2 : PE X e2 (tG ρ1 ρ2 (.tup (dInts ms)))) : PT X (.Compare e1 [.NotEq] [e2] pos) (tTG ρ ρ2 (!decide (ns = ms))) := t_cmp (op_neD (roomU64 hr)) op2_neT h1 h2 (nomark _)
/-- the truth of a tuple -/
theorem t_truT (h : PE X e (tD ρ (.tup ds))) (he : ∀ whole, isTrue e X.env whole = (do let v ← whole; standAt e.pos; holding [v] (truthy v)) := by intro _; rfl) : PT X e (tT ρ (!ds.isEmpty)) := pt_imp (pt_truth h he) fun σ H Q ⟨B, M0, b, P, S, kk⟩ => ⟨B, M0, b, P, S, fun v H2 S2 => by
  obtain ⟨M, O⟩ := S2.opn
  obtain ⟨⟨a, xs, ev, hx, ax⟩, _⟩ := O.p
  subst ev
  refine ⟨!ds.isEmpty, .inr (.inl ⟨xs, .inl (O.c.sub.rd hx), ?_⟩), kk H2 (S2.imp S.up fun _ _ q => q.2)⟩
  have := ax.len
  cases ds <;> cases xs <;> first | rfl | simp at this⟩
theorem cdiv (h0 : 0 < j) (h : Sm j) : CDivP i j := by
  refine ⟨h0, ?_⟩
  unfold Builtin.divisionGoesByPylong
  have hl : j.natAbs.log2 < 4000 := by
    by_cases e : j.natAbs = 0
    · rw [e]; decide
    · exact (Nat.log2_lt e).mpr h
  have : ¬ ((if (j == 0) = true then 0 else j.natAbs.log2 / 30 + 1) > 300) := by
    split
    · omega
    · omega
  simp only [decide_eq_false this, Bool.false_and]
theorem x_divmodS (hm : X.mg "divmod" = none) (h1 : PE X e1 (tD ρ (.int i))) (h2 : PE X e2 (tD ρ (.int j))) (h0 : 0 < j) (hb : Sm j) (hg : Gl X "divmod" := by rfl) (hs : starEach (e1 :: [e2]) X.env = (false, eval e1 X.env) :: starEach [e2] X.env := by rfl) (hs2 : starEach (e2 :: []) X.env = (false, eval e2 X.env) :: starEach [] X.env := by rfl) (hp : (backTo pos (starEach [e2] X.env)).any (·.1) = false := by rfl) :
    PE X (.Call (.Name "divmod" p) [e1, e2] [] pos) (tD ρ (.tup [.int (i / j), .int (i % j)])) := x_divmod (n := 0) hm h1 h2 h0 (cdiv h0 hb) hg hs hs2 hp
/-- xs[::-1] of a list -/
theorem x_revL {m : Nat} {p1 p2 p3 : Pos} (h : PE X e (tD ρ (.lst ds))) : PE X (.Subscript e (.Slice none none (some (.UnaryOp .USub (.Constant (.int 1) m p1) p2)) p3) pos) (tD ρ (.lst ds.reverse)) :=
  pe_imp (pe_revL h) fun σ H Q ⟨B, M0, b, P, S, kk⟩ => ⟨B, M0, b, P, S, fun x H1 S1 => by
    obtain ⟨M, O⟩ := S1.opn
    obtain ⟨⟨a, xs, ex, hx, ax⟩, _⟩ := O.p
    refine ⟨a, xs, ex, .inl (.inl (O.c.sub _ _ hx)), fun p hp => ?_⟩
    exact kk _ _ ((StV.newLst (S1.back O (Core.refl O.c.sub) (G := fun M => AtL M ds.reverse xs.reverse) (Up.atL _ _) ax.reverse) ((Up.at _ _).and S.up) hp).imp ((Up.at _ _).and S.up) fun _ _ q => ⟨q.1, q.2.2⟩)⟩
/-- .. of a list that may change, at slot n -/
theorem x_revM {n m : Nat} {q p1 p2 p3 : Pos} (hρ : ρ[n]? = some (.own (.lst ds)) ∨ ρ[n]? = some (.box (.lst ds))) (hN : X.N[n]? = some x := by rfl)
    (hv : Vis X.env.scope x := by first | exact Or.inl rfl | exact Or.inr (Or.inl rfl) | exact Or.inr (Or.inr rfl))
    (hd : (x == ("__debug__" : Str)) = false := by decide) (hcd : (x == ("__classdict__" : Str)) = false := by decide) : PE X (.Subscript (.Name x q) (.Slice none none (some (.UnaryOp .USub (.Constant (.int 1) m p1) p2)) p3) pos) (tD ρ (.lst ds.reverse)) :=
  pe_imp (pe_revL (pe_var hN hv hd hcd)) fun σ H Q ⟨B, M0, b, P, S, kk⟩ => by
    obtain ⟨a, xs, ha, hxs, S1⟩ := S.mut hρ
    obtain ⟨M, O⟩ := S1.opn
    refine ⟨_, ha, a, xs, rfl, .inl (.inl hxs), fun p hp => ?_⟩
    exact kk _ _ ((StV.newLst (S1.back O (Core.refl O.c.sub) (G := fun M => AtL M ds.reverse xs.reverse) (Up.atL _ _) O.p.1.reverse) ((Up.atL _ _).and S.up) hp).imp ((Up.at _ _).and S.up) fun _ _ q => ⟨q.1, q.2.2⟩)
/-- tuple(reversed(xs)), xs a list that may change, at slot n -/
theorem x_tupRevM {n : Nat} {q p2 pos2 : Pos} (hc : X.calm = true) (hm : X.mg "tuple" = none) (hm2 : X.mg "reversed" = none) (hρ : ρ[n]? = some (.own (.lst ds)) ∨ ρ[n]? = some (.box (.lst ds))) (hN : X.N[n]? = some x := by rfl)
    (hv : Vis X.env.scope x := by first | exact Or.inl rfl | exact Or.inr (Or.inl rfl) | exact Or.inr (Or.inr rfl))
    (hd : (x == ("__debug__" : Str)) = false := by decide) (hcd : (x == ("__classdict__" : Str)) = false := by decide) (hg : Gl X "tuple" := by rfl) (hg2 : Gl X "reversed" := by rfl)
    (hs1 : starEach [.Name x q] X.env = (false, eval (.Name x q) X.env) :: starEach [] X.env := by rfl) (hs2 : starEach [.Call (.Name "reversed" p2) [.Name x q] [] pos2] X.env = (false, eval (.Call (.Name "reversed" p2) [.Name x q] [] pos2) X.env) :: starEach [] X.env := by rfl) :
    PE X (.Call (.Name "tuple" p) [.Call (.Name "reversed" p2) [.Name x q] [] pos2] [] pos) (tD ρ (.tup ds.reverse)) :=
  pe_imp (RT.pe_tupRev hc hg hm hg2 hm2 (pe_var hN hv hd hcd) hs1 hs2) fun σ H Q ⟨B, M0, b, P, S, kk⟩ => by
    obtain ⟨a, xs, ha, hxs, S1⟩ := S.mut hρ
    obtain ⟨M, O⟩ := S1.opn
    refine ⟨_, ha, a, xs, rfl, .inl (.inl hxs), fun p hp => ?_⟩
    exact kk _ _ ((StV.newTup (S1.back O (Core.refl O.c.sub) (G := fun M => AtL M ds.reverse xs.reverse) (Up.atL _ _) O.p.1.reverse) ((Up.atL _ _).and S.up) hp).imp ((Up.at _ _).and S.up) fun _ _ q => ⟨q.1, q.2.2⟩)
/-- tuple(xs), xs a list that may change, at slot n -/
theorem x_tupM {n : Nat} {q : Pos} (hm : X.mg "tuple" = none) (hρ : ρ[n]? = some (.own (.lst ds)) ∨ ρ[n]? = some (.box (.lst ds))) (hN : X.N[n]? = some x := by rfl)
    (hv : Vis X.env.scope x := by first | exact Or.inl rfl | exact Or.inr (Or.inl rfl) | exact Or.inr (Or.inr rfl))
    (hd : (x == ("__debug__" : Str)) = false := by decide) (hcd : (x == ("__classdict__" : Str)) = false := by decide) (hg : Gl X "tuple" := by rfl)
    (hs : starEach (.Name x q :: []) X.env = (false, eval (.Name x q) X.env) :: starEach [] X.env := by rfl) (hp : (backTo pos (starEach [] X.env)).any (·.1) = false := by rfl) : PE X (.Call (.Name "tuple" p) [.Name x q] [] pos) (tD ρ (.tup ds)) :=
  pe_imp (pe_callTy (call_tuple_of (X := X)) hg hm (by decide +kernel) (pa_cons (pe_var hN hv hd hcd) pa_nil hs) (by decide) (by decide) hs hp) fun σ H Q ⟨B, M0, b, P, S, kk⟩ => by
    obtain ⟨a, xs, ha, hxs, S1⟩ := S.mut hρ
    obtain ⟨M, O⟩ := S1.opn
    refine ⟨_, ha, a, xs, rfl, .inl ⟨.inl (.inl hxs), fun p hp => ?_⟩⟩
    exact kk _ _ ((StV.newTup (S1.back O (Core.refl O.c.sub) (G := fun M => AtL M ds xs) (Up.atL _ _) O.p.1) ((Up.atL _ _).and S.up) hp).imp ((Up.at _ _).and S.up) fun _ _ q => ⟨q.1, q.2.2⟩)
/-- len(xs) of such a list -/
theorem x_lenM {n : Nat} {q : Pos} (hm : X.mg "len" = none) (hρ : ρ[n]? = some (.own (.lst ds)) ∨ ρ[n]? = some (.box (.lst ds))) (hN : X.N[n]? = some x := by rfl)
    (hv : Vis X.env.scope x := by first | exact Or.inl rfl | exact Or.inr (Or.inl rfl) | exact Or.inr (Or.inr rfl))
    (hd : (x == ("__debug__" : Str)) = false := by decide) (hcd : (x == ("__classdict__" : Str)) = false := by decide) (hg : Gl X "len" := by rfl)
    (hs : starEach (.Name x q :: []) X.env = (false, eval (.Name x q) X.env) :: starEach [] X.env := by rfl) (hp : (backTo pos (starEach [] X.env)).any (·.1) = false := by rfl) : PE X (.Call (.Name "len" p) [.Name x q] [] pos) (tD ρ (.int ds.length)) :=
  pe_imp (pe_callB (call_len_seq (X := X)) hg hm PySem.boot_len (pa_cons (pe_var hN hv hd hcd) pa_nil hs) (by decide) (by decide) hs hp) fun σ H Q ⟨B, M0, b, P, S, kk⟩ => by
    obtain ⟨a, xs, ha, hxs, S1⟩ := S.mut hρ
    obtain ⟨M, O⟩ := S1.opn
    refine ⟨_, ha, a, xs, rfl, .inl (.inl (.inl hxs)), ?_⟩
    rw [← O.p.1.len]
    exact kk _ H ((S1.imp S.up fun _ _ q => q.2).put fun _ => rfl)
/-! ### more that is walked -/
variable {tg : Expr} {ys zs : List D}
theorem i_rev (hm : X.mg "reversed" = none) (h : PE X e (tD ρ (.tup ys))) (hg : Gl X "reversed" := by rfl) (hs : starEach [e] X.env = (false, eval e X.env) :: starEach [] X.env := by rfl) : PI X tg (.Call (.Name "reversed" p) [e] [] pos) (tI ρ ys.reverse) :=
  pi_imp (RT.pi_revA hg hm h hs) fun σ H R ⟨B, M0, b, P, S, k⟩ => ⟨B, M0, b, P, S, fun x H1 S1 => by
    obtain ⟨M, O⟩ := S1.opn
    obtain ⟨⟨a, xs, ex, hx, ax⟩, _⟩ := O.p
    have uG : Up (fun M => Rd M a (.tup xs) ∧ AtL M ys xs) := fun _ _ e q => ⟨e.rd q.1, q.2.up e⟩
    have hl := ax.len
    refine ⟨a, xs, ex, .inr ⟨.inl (O.c.sub.rd hx), k _ H1 (fun M => Rd M a (.tup xs) ∧ AtL M ys xs) ((S1.back O (Core.refl O.c.sub) uG ⟨hx, ax⟩).imp (uG.and S.up) fun _ _ q => ⟨q.1, q.2.2⟩) uG fun M' H' q e => ⟨fun i d hd => ?_, by rw [List.length_reverse, hl]; exact Nat.le_refl _⟩⟩⟩
    have hi : i < xs.length := by have := (List.getElem?_eq_some_iff.mp hd).1; rw [List.length_reverse] at this; omega
    obtain ⟨x', hx', _⟩ := q.2.reverse.get hd
    rw [List.getElem?_reverse hi] at hx'
    refine ⟨⟨hi, xs, x', .inl (e.rd q.1), hx'⟩, fun y H'' z => ?_⟩
    obtain ⟨z1, z2⟩ := z
    subst z1
    have h4 := z2 xs (.inl (e.rd q.1))
    exact ⟨M', Core.refl e, q.2.reverse.all hd (by rw [List.getElem?_reverse hi]; exact h4)⟩⟩
/-- zip of two tuples -/
def zip2D : List D → List D → List D
  | a :: as, b :: bs => .tup [a, b] :: zip2D as bs
  | _, _ => []
theorem zip2D_get : ∀ {as bs : List D} {i : Nat} {d : D}, (zip2D as bs)[i]? = some d → ∃ a b, as[i]? = some a ∧ bs[i]? = some b ∧ d = .tup [a, b]
  | a :: as, b :: bs, 0, d, h => ⟨a, b, rfl, rfl, (Option.some.inj (by simpa [zip2D] using h)).symm⟩
  | a :: as, b :: bs, i + 1, d, h => by
    obtain ⟨a', b', h1, h2, h3⟩ := zip2D_get (as := as) (bs := bs) (i := i) (d := d) (by simpa [zip2D] using h)
    exact ⟨a', b', by simpa using h1, by simpa using h2, h3⟩
  | [], _, i, d, h => by simp [zip2D] at h
  | _ :: _, [], i, d, h => by simp [zip2D] at h
theorem zip2D_len : ∀ {as bs : List D}, (zip2D as bs).length = min as.length bs.length
  | a :: as, b :: bs => by simp only [zip2D, List.length_cons, zip2D_len (as := as) (bs := bs)]; omega
  | [], _ => by simp [zip2D]
  | _ :: _, [] => by simp [zip2D]
theorem i_zip {elts : List Expr} {kk : Nat} {tpos : Pos} (hm : X.mg "zip" = none) (h1 : PE X e1 (tD ρ (.tup ys))) (h2 : PE X e2 (tD ρ (.tup zs))) (hg : Gl X "zip" := by rfl) (hs : starEach [e1, e2] X.env = (false, eval e1 X.env) :: starEach [e2] X.env := by rfl) (hs2 : starEach [e2] X.env = (false, eval e2 X.env) :: starEach [] X.env := by rfl) (hp : (backTo pos (starEach [e2] X.env)).any (·.1) = false := by rfl) :
    PI X (.Tuple elts kk tpos) (.Call (.Name "zip" p) [e1, e2] [] pos) (tI ρ (zip2D ys zs)) :=
  pi_imp (RZ.pi_zipA hg hm (a_cons h1 (a_cons h2 a_nil hs2) hs) hs hp) fun σ H R ⟨B, M0, b, P, S, k⟩ => ⟨B, M0, b, P, S, fun vs H1 S1 => by
    obtain ⟨M, O⟩ := S1.opn
    obtain ⟨x, y, ev, ⟨a1, xs1, ex, hx1, ax1⟩, ⟨a2, xs2, ey, hx2, ax2⟩⟩ := atL_2 O.p.1
    have uG : Up (fun M => (Rd M a1 (.tup xs1) ∧ AtL M ys xs1) ∧ Rd M a2 (.tup xs2) ∧ AtL M zs xs2) := fun _ _ e q => ⟨⟨e.rd q.1.1, q.1.2.up e⟩, e.rd q.2.1, q.2.2.up e⟩
    have hl1 := ax1.len
    have hl2 := ax2.len
    refine ⟨a1, a2, xs1, xs2, by rw [ev, ex, ey], .inr ⟨.inl (O.c.sub.rd hx1), .inl (O.c.sub.rd hx2), k _ H1 (fun M => (Rd M a1 (.tup xs1) ∧ AtL M ys xs1) ∧ Rd M a2 (.tup xs2) ∧ AtL M zs xs2) ((S1.back O (Core.refl O.c.sub) uG ⟨⟨hx1, ax1⟩, hx2, ax2⟩).imp (uG.and S.up) fun _ _ q => ⟨q.1, q.2.2⟩) uG fun M' H' q e => ⟨fun i d hd => ?_, xs1, xs2, .inl (e.rd q.1.1), .inl (e.rd q.2.1), by rw [zip2D_len, hl1, hl2]; omega⟩⟩⟩
    obtain ⟨da, db, ha, hb, rfl⟩ := zip2D_get hd
    obtain ⟨va, hva, _⟩ := q.1.2.get ha
    obtain ⟨vb, hvb, _⟩ := q.2.2.get hb
    refine ⟨⟨xs1, xs2, va, vb, .inl (e.rd q.1.1), .inl (e.rd q.2.1), hva, hvb⟩, fun v H'' z => ?_⟩
    obtain ⟨T, u, w, e1, e2, e3, f1, f2⟩ := z
    have g1 := q.1.2.all ha (f1 xs1 (.inl (e.rd q.1.1)))
    have g2 := q.2.2.all hb (f2 xs2 (.inl (e.rd q.2.1)))
    subst e1; subst e3
    have mT : M' T = none := e.free e2
    have e0 : Ex M' (upd M' T (.tup [u, w])) := Ex.new mT
    exact ⟨upd M' T (.tup [u, w]), ⟨e.upd2 T _ mT, e0, fun a ha => upd_ne fun z => ha (by rw [z]; exact e2), fun a o ha _ => by rw [upd_ne fun z => by rw [z, e2] at ha; cases ha]; exact ha, fun a ha => by rw [upd_ne fun z => ha (by rw [z]; exact e2)]; exact ha⟩, T, [u, w], rfl, .inl upd_same, u, [w], rfl, g1.up e0, w, [], rfl, g2.up e0, rfl⟩⟩
end
/-! ### comprehensions whose target is a name (slot n) -/
section
variable {X : Cx} {W : WX} {CU : Addr} {ρ : List Sl} {d : D} {ys : List D} {it elt : Expr} {pos p : Pos} {x : Str} {scope : Scope}
theorem x_lcN (n : Nat) (es : Nat → D) (nd : X.N.Nodup) (hi : PI X (.Name x p) it (tI ρ ys)) (hy : ys.length ≤ 100000) (he : ∀ (s : Shared) (H : Hp) (C : Addr) (cl : List (Str × Addr)) (fp : List Addr) (i : Nat) d, ys[i]? = some d → PE (X.blk s H scope (compEnvC scope cl C X.env) fp) elt (tD ((inBlk ρ [n]).set n (.val d)) (es i)))
    (ok : BlkOk X.N X.env.scope scope [(x, n)] := by exact ⟨rfl, of_decide_eq_true (by kernel_rfl), of_decide_eq_true (by kernel_rfl), of_decide_eq_true (by kernel_rfl), of_decide_eq_true (by kernel_rfl)⟩) (hc : X.calm = true := by rfl) (hN : X.N[n]? = some x := by rfl)
    (hf : ∀ (s : Shared) (H : Hp) (C : Addr) (cl : List (Str × Addr)) (fp : List Addr), PG (X.blk s H scope (compEnvC scope cl C X.env) fp) (.Name x p) (gName n) := by exact fun s H C cl fp => pg_name (by assumption) (by rfl) (Or.inl rfl))
    (hs : ∀ x, foldedSetIterable it X.env x = pure x := by intro _; rfl) : PE X (.ListComp elt [⟨.Name x p, it, [], 0⟩] scope pos) (tD ρ (.lst ((List.range ys.length).map es))) :=
  x_lc (ys := ys) [(x, n)] es (fun i => (inBlk ρ [n]).set n (.val (ys.getD i .non))) hc nd hi ok hy hf (fun i d hi => by
    have e : ys.getD i .non = d := by rw [List.getD_eq_getElem?_getD, hi]; rfl
    show TgV _ _ _ _ ((inBlk ρ [n]).set n (.val (ys.getD i .non)))
    rw [e]; exact tv_name (List.mem_singleton.mpr rfl)) (fun s H C cl fp i hi => he s H C cl fp i _ (by rw [List.getD_eq_getElem?_getD, List.getElem?_eq_getElem hi]; rfl)) hs
theorem s_lcN (n : Nat) (es : Nat → D) (nd : X.N.Nodup) {y : Str} {py spos : Pos} (i : Nat) (hi : PI X (.Name x p) it (tI ρ ys)) (hy : ys.length ≤ 100000) (he : ∀ (s : Shared) (H : Hp) (C : Addr) (cl : List (Str × Addr)) (fp : List Addr) (i : Nat) d, ys[i]? = some d → PE (X.blk s H scope (compEnvC scope cl C X.env) fp) elt (tD ((inBlk ρ [n]).set n (.val d)) (es i)))
    (hyN : X.N[i]? = some y := by rfl) (hyl : X.env.scope.names.lookup y = some .local := by rfl) (hsw : swapsWith (.ListComp elt [⟨.Name x p, it, [], 0⟩] scope pos) (some (.Name y py)) spos.line X.env = pure true := by rfl)
    (ok : BlkOk X.N X.env.scope scope [(x, n)] := by exact ⟨rfl, of_decide_eq_true (by kernel_rfl), of_decide_eq_true (by kernel_rfl), of_decide_eq_true (by kernel_rfl), of_decide_eq_true (by kernel_rfl)⟩) (hc : X.calm = true := by rfl) (hN : X.N[n]? = some x := by rfl)
    (hf : ∀ (s : Shared) (H : Hp) (C : Addr) (cl : List (Str × Addr)) (fp : List Addr), PG (X.blk s H scope (compEnvC scope cl C X.env) fp) (.Name x p) (gName n) := by exact fun s H C cl fp => pg_name (by assumption) (by rfl) (Or.inl rfl))
    (hs : ∀ x, foldedSetIterable it X.env x = pure x := by intro _; rfl) : PS X (.Assign [.Name y py] (.ListComp elt [⟨.Name x p, it, [], 0⟩] scope pos) spos) (tS W CU ρ (.nx (ρ.set i (.val (.lst ((List.range ys.length).map es)))))) :=
  s_lc (n := 0) (ys := ys) i [(x, n)] es (fun i => (inBlk ρ [n]).set n (.val (ys.getD i .non))) hc nd hyN hyl hsw hi ok hy hf (fun i d hi => by
    have e : ys.getD i .non = d := by rw [List.getD_eq_getElem?_getD, hi]; rfl
    show TgV _ _ _ _ ((inBlk ρ [n]).set n (.val (ys.getD i .non)))
    rw [e]; exact tv_name (List.mem_singleton.mpr rfl)) (fun s H C cl fp i hi => he s H C cl fp i _ (by rw [List.getD_eq_getElem?_getD, List.getElem?_eq_getElem hi]; rfl)) hs
end
theorem map_bl {n : Nat} {f : Nat → Bool} : (List.range n).map (fun i => D.bl (f i)) = ((List.range n).map f).map D.bl := by rw [List.map_map]; rfl
theorem all_true {n : Nat} {f : Nat → Bool} (h : ∀ i, i < n → f i = true) : ((List.range n).map f).all (fun b => b) = true := by
  rw [List.all_eq_true]
  intro b hb
  obtain ⟨i, hi, e⟩ := List.mem_map.mp hb
  rw [← e]; exact h i (List.mem_range.mp hi)
/-- a list of trues -/
theorem x_trues {X : Cx} {ρ : List Sl} {e : Expr} {n : Nat} {p pos : Pos} (hm : X.mg "all" = none) (h : PE X e (tD ρ (.lst ((List.range n).map fun _ => D.bl true)))) (hc : X.calm = true := by rfl) (hg : Gl X "all" := by rfl) (hs : starEach (e :: []) X.env = (false, eval e X.env) :: starEach [] X.env := by rfl) (hp : (backTo pos (starEach [] X.env)).any (·.1) = false := by rfl) :
    PE X (.Call (.Name "all" p) [e] [] pos) (tD ρ (.bl true)) := x_is (x_all (bs := (List.range n).map fun _ => true) hm hc (x_is h (by rw [map_bl])) hg hs hp) (by rw [all_true fun _ _ => rfl])
/-! ### two, three names as a target -/
def two (n m : Nat) (ρ : List Sl) : D → List Sl
  | .tup [a, b] => (ρ.set n (.val a)).set m (.val b)
  | _ => []
def thr (n m l : Nat) (ρ : List Sl) : D → List Sl
  | .tup [a, b, c] => ((ρ.set n (.val a)).set m (.val b)).set l (.val c)
  | _ => []
section
variable {X : Cx} {W : WX} {CU : Addr} {ρ : List Sl} {d : D} {ys : List D} {it elt : Expr} {pos p p1 p2 p3 tpos : Pos} {x x1 x2 x3 : Str} {scope : Scope} {kk : Nat} {body : List Stmt} {o : Out}
theorem pg_2 {n m : Nat} (nd : X.N.Nodup) (hc : X.calm = true) (hN : X.N[n]? = some x1) (hM : X.N[m]? = some x2) (hx : Loc X.env.scope x1) (hy : Loc X.env.scope x2) (hf : X.fn x1 = true ∨ X.env.scope.names.lookup x1 = some .local) (hf2 : X.fn x2 = true ∨ X.env.scope.names.lookup x2 = some .local)
    (h1 : (assignEach [.Name x1 p1, .Name x2 p2] X.env).length = 2 := by rfl) (h2 : List.findIdx? (fun x => x.1) (assignEach [.Name x1 p1, .Name x2 p2] X.env) = none := by rfl)
    (h3 : (assignEach [.Name x1 p1, .Name x2 p2] X.env).map (·.2) = assign (.Name x1 p1) X.env :: (assignEach [.Name x2 p2] X.env).map (·.2) := by rfl) (h4 : (assignEach [.Name x2 p2] X.env).map (·.2) = assign (.Name x2 p2) X.env :: (assignEach [] X.env).map (·.2) := by rfl) :
    PG X (.Tuple [.Name x1 p1, .Name x2 p2] kk tpos) (gTup X.K 2 (gCons (gName n) (gCons (gName m) gNil))) :=
  pg_tup hc (pgs_cons (pg_name nd hN hx hf) (pgs_cons (pg_name nd hM hy hf2) pgs_nil h4) h3) h1 h2
theorem tv_2 {K : PySem.W.Frag} {n m : Nat} {a b : D} {vs : List Nat} (h1 : n ∈ vs) (h2 : m ∈ vs) : TgV (gTup K 2 (gCons (gName n) (gCons (gName m) gNil))) vs ρ (.tup [a, b]) (two n m ρ (.tup [a, b])) := tv_tup (tvs_cons (tv_name h1) (tvs_cons (tv_name h2) tvs_nil)) rfl
theorem tv_3 {K : PySem.W.Frag} {n m l : Nat} {a b c : D} {vs : List Nat} (h1 : n ∈ vs) (h2 : m ∈ vs) (h3 : l ∈ vs) : TgV (gTup K 3 (gCons (gName n) (gCons (gName m) (gCons (gName l) gNil)))) vs ρ (.tup [a, b, c]) (thr n m l ρ (.tup [a, b, c])) := tv_tup (tvs_cons (tv_name h1) (tvs_cons (tv_name h2) (tvs_cons (tv_name h3) tvs_nil))) rfl
theorem tg_2 {K : PySem.W.Frag} {n m : Nat} {a b : D} : TgD (gTup K 2 (gCons (gName n) (gCons (gName m) gNil))) ρ (.tup [a, b]) (two n m ρ (.tup [a, b])) := tg_tup (tgs_cons tg_name (tgs_cons tg_name tgs_nil)) rfl
theorem x_lc2 (n m : Nat) (es : Nat → D) (nd : X.N.Nodup) (hi : PI X (.Tuple [.Name x1 p1, .Name x2 p2] kk tpos) it (tI ρ ys)) (hy : ys.length ≤ 100000) (h2 : ∀ (i : Nat) d, ys[i]? = some d → ∃ a b, d = .tup [a, b])
    (he : ∀ (s : Shared) (H : Hp) (C : Addr) (cl : List (Str × Addr)) (fp : List Addr) (i : Nat) a b, ys[i]? = some (.tup [a, b]) → PE (X.blk s H scope (compEnvC scope cl C X.env) fp) elt (tD (((inBlk ρ [n, m]).set n (.val a)).set m (.val b)) (es i)))
    (ok : BlkOk X.N X.env.scope scope [(x1, n), (x2, m)] := by exact ⟨rfl, of_decide_eq_true (by kernel_rfl), of_decide_eq_true (by kernel_rfl), of_decide_eq_true (by kernel_rfl), of_decide_eq_true (by kernel_rfl)⟩) (hc : X.calm = true := by rfl)
    (hf : ∀ (s : Shared) (H : Hp) (C : Addr) (cl : List (Str × Addr)) (fp : List Addr), PG (X.blk s H scope (compEnvC scope cl C X.env) fp) (.Tuple [.Name x1 p1, .Name x2 p2] kk tpos) (gTup X.K 2 (gCons (gName n) (gCons (gName m) gNil))) := by exact fun s H C cl fp => pg_2 (by assumption) rfl rfl rfl (Or.inl rfl) (Or.inl rfl) (Or.inr rfl) (Or.inr rfl))
    (hs : ∀ x, foldedSetIterable it X.env x = pure x := by intro _; rfl) : PE X (.ListComp elt [⟨.Tuple [.Name x1 p1, .Name x2 p2] kk tpos, it, [], 0⟩] scope pos) (tD ρ (.lst ((List.range ys.length).map es))) :=
  x_lc (ys := ys) [(x1, n), (x2, m)] es (fun i => two n m (inBlk ρ [n, m]) (ys.getD i .non)) hc nd hi ok hy hf (fun i d hi => by
    obtain ⟨a, b, e⟩ := h2 i d hi
    subst e
    have e : ys.getD i .non = .tup [a, b] := by rw [List.getD_eq_getElem?_getD, hi]; rfl
    show TgV _ _ _ _ (two n m (inBlk ρ [n, m]) (ys.getD i .non))
    rw [e]; exact tv_2 List.mem_cons_self (List.mem_cons_of_mem _ List.mem_cons_self)) (fun s H C cl fp i hi => by
    obtain ⟨a, b, e⟩ := h2 i _ (List.getElem?_eq_getElem hi)
    have e1 : ys[i]? = some (.tup [a, b]) := by rw [List.getElem?_eq_getElem hi, e]
    have e2 : ys.getD i .non = .tup [a, b] := by rw [List.getD_eq_getElem?_getD, e1]; rfl
    show PE _ _ (tD (two n m (inBlk ρ [n, m]) (ys.getD i .non)) _)
    rw [e2]; exact he s H C cl fp i a b e1) hs
/-- for x, y in ..: x at slot n, y at slot m -/
theorem s_for2 (n m : Nat) (nd : X.N.Nodup) (hi : PI X (.Tuple [.Name x1 p1, .Name x2 p2] kk tpos) it (tI ρ ys)) (R : Nat → List Sl) (h0 : SubL (R 0) ρ) (h2 : ∀ (i : Nat) d, ys[i]? = some d → ∃ a b, d = .tup [a, b]) (hb : ∀ (i : Nat) a b, ys[i]? = some (.tup [a, b]) → PSs X body (tS W CU (((R i).set n (.val a)).set m (.val b)) (.nx (R (i + 1)))))
    (hp : PassesOwn (model X.prog X.w) X.A X.env X.xe := by exact passes_of rfl) (hc : X.calm = true := by rfl) (hg : PG X (.Tuple [.Name x1 p1, .Name x2 p2] kk tpos) (gTup X.K 2 (gCons (gName n) (gCons (gName m) gNil))) := by exact pg_2 (by assumption) rfl rfl rfl (Or.inl rfl) (Or.inl rfl) (Or.inl rfl) (Or.inl rfl))
    (hs : ∀ x, foldedSetIterable it X.env x = pure x := by intro _; rfl) : PS X (.For (.Tuple [.Name x1 p1, .Name x2 p2] kk tpos) it body [] pos) (tS W CU ρ (.nx (R ys.length))) :=
  s_for hp hc hi hg R (fun i => two n m (R i) (ys.getD i .non)) h0 (fun i d hi => by
    obtain ⟨a, b, e⟩ := h2 i d hi
    subst e
    have e : ys.getD i .non = .tup [a, b] := by rw [List.getD_eq_getElem?_getD, hi]; rfl
    show TgD _ _ _ (two n m (R i) (ys.getD i .non))
    rw [e]; exact tg_2) (fun i d hi => by
    obtain ⟨a, b, e⟩ := h2 i d hi
    subst e
    have e : ys.getD i .non = .tup [a, b] := by rw [List.getD_eq_getElem?_getD, hi]; rfl
    show PSs X body (tS W CU (two n m (R i) (ys.getD i .non)) _)
    rw [e]; exact hb i a b hi) hs
/-- .. that may leave at turn t -/
theorem s_for2X (n m t : Nat) (nd : X.N.Nodup) (hi : PI X (.Tuple [.Name x1 p1, .Name x2 p2] kk tpos) it (tI ρ ys)) (R : Nat → List Sl) (h0 : SubL (R 0) ρ) (h2 : ∀ (i : Nat) d, ys[i]? = some d → ∃ a b, d = .tup [a, b]) (hm : t < ys.length) (hb : ∀ (i : Nat) a b, ys[i]? = some (.tup [a, b]) → i < t → PSs X body (tS W CU (((R i).set n (.val a)).set m (.val b)) (.nx (R (i + 1)))))
    (ho : loopOut o) (hl : ∀ a b, ys[t]? = some (.tup [a, b]) → PSs X body (tS W CU (((R t).set n (.val a)).set m (.val b)) o))
    (hp : PassesOwn (model X.prog X.w) X.A X.env X.xe := by exact passes_of rfl) (hc : X.calm = true := by rfl) (hg : PG X (.Tuple [.Name x1 p1, .Name x2 p2] kk tpos) (gTup X.K 2 (gCons (gName n) (gCons (gName m) gNil))) := by exact pg_2 (by assumption) rfl rfl rfl (Or.inl rfl) (Or.inl rfl) (Or.inl rfl) (Or.inl rfl))
    (hs : ∀ x, foldedSetIterable it X.env x = pure x := by intro _; rfl) : PS X (.For (.Tuple [.Name x1 p1, .Name x2 p2] kk tpos) it body [] pos) (tS W CU ρ o) :=
  s_forG t (by omega) hp hc hi hg (R := R) (R1 := fun i => two n m (R i) (ys.getD i .non)) h0 (fun i d hi _ => by
    obtain ⟨a, b, e⟩ := h2 i d hi
    subst e
    have e : ys.getD i .non = .tup [a, b] := by rw [List.getD_eq_getElem?_getD, hi]; rfl
    show TgD _ _ _ (two n m (R i) (ys.getD i .non))
    rw [e]; exact tg_2) (fun i d hi hlt => by
    obtain ⟨a, b, e⟩ := h2 i d hi
    subst e
    have e : ys.getD i .non = .tup [a, b] := by rw [List.getD_eq_getElem?_getD, hi]; rfl
    show PSs X body (tS W CU (two n m (R i) (ys.getD i .non)) _)
    rw [e]; exact hb i a b hi hlt) (.inr ⟨hm, ho, by
    obtain ⟨a, b, e⟩ := h2 t _ (List.getElem?_eq_getElem hm)
    have e1 : ys[t]? = some (.tup [a, b]) := by rw [List.getElem?_eq_getElem hm, e]
    have e2 : ys.getD t .non = .tup [a, b] := by rw [List.getD_eq_getElem?_getD, e1]; rfl
    show PSs X body (tS W CU (two n m (R t) (ys.getD t .non)) _)
    rw [e2]; exact hl a b e1⟩) hs
end
theorem zip2D_two {as bs : List D} (i : Nat) (d : D) (h : (zip2D as bs)[i]? = some d) : ∃ a b, d = .tup [a, b] := let ⟨a, b, _, _, e⟩ := zip2D_get h; ⟨a, b, e⟩
theorem zip2I_get {as bs : List Int} {i : Nat} {a b : D} (h : (zip2D (dInts as) (dInts bs))[i]? = some (.tup [a, b])) : ∃ (h1 : i < as.length) (h2 : i < bs.length), a = .int as[i] ∧ b = .int bs[i] := by
  obtain ⟨a', b', h1, h2, e⟩ := zip2D_get h
  cases e
  obtain ⟨l1, e1⟩ := dInts_get h1
  obtain ⟨l2, e2⟩ := dInts_get h2
  exact ⟨l1, l2, e1, e2⟩
theorem zip2I_len {as bs : List Int} (h : as.length = bs.length) : (zip2D (dInts as) (dInts bs)).length = as.length := by rw [zip2D_len, dInts_len, dInts_len]; omega
/-- an item of a tuple of ints -/
theorem atI_int {ns : List Int} {i : Nat} (h : i < ns.length) : atI (dInts ns) (i : Int) = some (.int ns[i]) := by
  unfold atI
  have e : ixN (dInts ns).length (i : Int) = some i := by
    unfold ixN
    rw [dInts_len]
    simp [h]
  rw [e]
  show (dInts ns)[i]? = _
  rw [List.getElem?_map, List.getElem?_eq_getElem h]; rfl
theorem atI_nat {ds : List D} {i : Nat} {d : D} (h : ds[i]? = some d) : atI ds (i : Int) = some d := by
  have hl : i < ds.length := (List.getElem?_eq_some_iff.mp h).1
  unfold atI
  have e : ixN ds.length (i : Int) = some i := by
    unfold ixN
    simp [hl]
  rw [e]; exact h
section
variable {X : Cx} {ρ ρ1 ρ2 : List Sl} {e e1 e2 : Expr} {pos p : Pos} {ns : List Int} {i : Int} {n : Nat}
theorem x_lenI (hm : X.mg "len" = none) (h : PE X e (tD ρ (.tup (dInts ns)))) (hg : Gl X "len" := by rfl) (hs : starEach (e :: []) X.env = (false, eval e X.env) :: starEach [] X.env := by rfl) (hp : (backTo pos (starEach [] X.env)).any (·.1) = false := by rfl) : PE X (.Call (.Name "len" p) [e] [] pos) (tD ρ (.int ns.length)) :=
  x_is (x_len (ds := dInts ns) rfl hm h hg hs hp) (by rw [dInts_len])
theorem x_ixI (h1 : PE X e1 (tG ρ ρ1 (.tup (dInts ns)))) (h2 : PE X e2 (tG ρ1 ρ2 (.int i))) (hi : i = (n : Int)) (hl : n < ns.length) (hs : PlainIx e2 := by exact fun _ _ => rfl) : PE X (.Subscript e1 e2 pos) (tG ρ ρ2 (.int ns[n])) :=
  x_ix (ds := dInts ns) h1 h2 rfl (by rw [hi]; exact atI_int hl) hs
end
end Sd

namespace Sd
open PySem PySem.Spec L2
open PyProof.Rows (envOfC IsTup)

/-! ### a tuple whose object is known (it has no dict): tuple(xs), t.index(k), min(t) -/
theorem obj_frz {P : Program} {w : World} {H : Hp} {h : Heap} {a : Addr} {o : Obj} {xs : List V} : ObjOk P w H h a (.frz o (.tup xs)) ↔ h.get? a = some o ∧ xs.length ≤ sizeLine ∧ ∃ its, Vals xs its ∧ IsTup h a its.toArray := by simp only [ObjOk]
section
variable {X : Cx} {k : Nat} {o e : Expr} {to te : TE} {apos cpos : Pos}
theorem call_tupF : CallR X (.type "tuple") (fun xs H Q => ∃ p ys, xs = [V.ref p] ∧ SqL X.K H p ys ∧ ∀ l ob, H l = none → ob.dict = none → Q (.ref l) (upd H l (.frz ob (.tup ys)))) := by
  intro pins s σ H xs us Q I hv ⟨p, ys, e, sq, kk⟩
  subst e
  obtain ⟨u, rfl, hu⟩ := vals1 hv
  have eu : u = Value.ref p := hu
  subst eu
  obtain ⟨its, hits, hl, hlen⟩ := I.list sq
  have hlen2 : its.length = ys.length := hits.length.symm
  refine PySem.call_tuple_list hl.isList (fun h' hk => ?_) (by rw [List.size_toArray, hlen2]; exact hlen)
  have I1 := I.kept (t' := s.toks) hk
  have hf : H h'.objs.size = none := I1.hok.fresh (Nat.le_refl _)
  have hg : (h'.push { cls := Value.type "tuple", data := Data.seq its.toArray }).get? h'.objs.size = some { cls := Value.type "tuple", data := Data.seq its.toArray } := PySem.Heap.get?_push_size h' rfl
  exact ⟨.ref h'.objs.size, upd H h'.objs.size (.frz { cls := Value.type "tuple", data := Data.seq its.toArray } (.tup ys)), I1.laid (fun b u e => PySem.Heap.get?_push_of_some _ e) (Nat.le_refl _) (obj_frz.mpr ⟨hg, hlen, its, hits, IsTup.new h' its.toArray⟩), rfl, kk _ _ hf rfl⟩
theorem pe_tupIx {t : TA} (h : PE X o to) (ha : PA X [e] t) (hbase : attributeBase o "index" X.env (eval o X.env) = eval o X.env := by rfl)
    (hfew : ((backTo cpos (starEach [e] X.env)).all (fun x => !x.1) && (backToKw cpos (keywordEach [] X.env)).all (fun x => x.1.isSome) && decide ([e].length + ([] : List Keyword).length + (if ([] : List Keyword).isEmpty then 0 else 1) < 30)) = true := by rfl)
    (hline : (apos.endLine == cpos.line) = true := by rfl) (hst : starEach [e] X.env = (false, eval e X.env) :: starEach [] X.env := by rfl) (hplain : (backTo cpos (starEach [] X.env)).any (·.1) = false := by rfl) :
    PE X (.Call (.Attribute o "index" apos) [e] [] cpos) (fun σ H Q => to σ H fun x H1 => ∃ a ob ns, x = .ref a ∧ H1 a = some (.frz ob (.tup (ns.map V.int))) ∧ ob.dict = none ∧ t σ H1 fun vs H2 => ∃ k, vs = [.int k] ∧ k ∈ ns ∧ (∃ ob', H2 a = some (.frz ob' (.tup (ns.map V.int)))) ∧ Q (.int (List.idxOf k ns : Nat)) H2) := by
  refine ⟨fun pins s σ H Q I hq => ?_⟩
  refine PySem.wpAny_Call_method_late hbase hfew hline rfl (thn (h.run pins s σ H _ I hq) fun u s1 ⟨x, H1, I1, rx, a, ob, ns, ex, hf, hd, q⟩ => ?_)
  subst ex
  have eu : u = Value.ref a := rx
  subst eu
  obtain ⟨g1, g2, its, g3, g4⟩ := obj_frz.mp (I1.hok a _ hf)
  refine ⟨"tuple", "tuple.index", PySem.F.plainAttrs_tuple, PySem.F.slot_tuple_index, PySem.F.type_tuple_index, g4.typeIs, fun b hb => ?_, ?_⟩
  · cases hb; exact ⟨ob, g1, hd⟩
  · refine PySem.Calls.callWith_builtin (by rw [hst]; exact hplain) ?_
    have hpa := ha.run cpos pins s1 σ H1 _ I1 q
    rw [hst] at hpa ⊢
    refine PySem.Calls.evalArgs_plain (thn hpa fun us s2 ⟨vs, H2, I2, r, kk, ev, hk, ⟨ob', hf2⟩, q2⟩ => ?_)
    subst ev
    obtain ⟨u, rfl, t, rfl⟩ := vals1 r
    obtain ⟨g1, g2, its, g3, g4⟩ := obj_frz.mp (I2.hok a _ hf2)
    exact PySem.SeqAt.tuple_index_ints (vs := its) g4 (Vals.ints g3) hk ⟨.int (List.idxOf kk ns : Nat), _, I2.kept fun _ _ h => h, ⟨_, rfl⟩, q2⟩
theorem reads_ints : ∀ {h : Heap} {vs : List Value} {ns : List Int}, PyProof.Rows.IntsAre vs ns → ReadsAll h vs (ns.map PySem.W.Datum.toD) []
  | _, _, _, .nil => .nil
  | _, _, _, .cons n t h => ReadsAll.cons (as := []) (.int n t) (reads_ints h)
/-- min of a tuple of ints -/
theorem call_minT (hc : X.calm = true) (hr : Room k X.A) : CallR X (.builtin "min") (fun xs H Q => ∃ p n ns, xs = [V.ref p] ∧ SqT X.K H p ((n :: ns).map V.int) ∧ Q (.int (PySem.W.minOf n ns)) H) := by
  intro pins s σ H xs us Q I hv ⟨p, n, ns, e, sq, kk⟩
  subst e
  obtain ⟨u, rfl, hu⟩ := vals1 hv
  have eu : u = Value.ref p := hu
  subst eu
  obtain ⟨its, hits, hl, hlen⟩ := I.tuple sq
  refine PySem.W.min_tuple_datum (α := Int) hr.hd hl ⟨[], reads_ints (Vals.ints hits)⟩ ?_ fun i v h' tk hv hh hk => ?_
  · have := hr.un
    show X.A.units + 1 + _ < cLine
    have hd : PySem.W.Datum.depth Int ≤ 60 := by decide
    omega
  · obtain ⟨as, hh⟩ := hh
    cases hh with
    | int i t => exact ⟨.int _, H, I.kept hk, ⟨t, rfl⟩, kk⟩
end
section
variable {X : Cx} {ρ ρ1 ρ2 : List Sl} {d : D} {ds : List D} {e o : Expr} {apos cpos pos p q : Pos} {ns : List Int} {n i : Int} {k : Nat} {x : Str}
theorem StV.newTpf {B M0 : Hp} {b : Option Addr} {P : Hp → Prop} {σ : St} {H : Hp} {p : Addr} {vs : List V} {ob : Obj} (S : StV B M0 b ρ (fun M => AtL M ds vs ∧ P M) σ H) (uP : Up P) (hp : H p = none) (hd : ob.dict = none) : StV B M0 b ρ (fun M => At M (.tpf ds) (.ref p) ∧ P M) σ (upd H p (.frz ob (.tup vs))) :=
  (S.grow (G := fun M => At M (.tpf ds) (.ref p)) hp (Up.at _ _) fun M e q => ⟨p, ob, vs, rfl, upd_same, hd, q.1.up (Ex.new (e.free hp))⟩).imp ((Up.at _ _).and uP) fun _ _ q => ⟨q.1, q.2.2⟩
/-- tuple(xs), xs the list at slot n: a plain tuple -/
theorem x_tupMF {n : Nat} (hm : X.mg "tuple" = none) (hρ : ρ[n]? = some (.own (.lst ds)) ∨ ρ[n]? = some (.box (.lst ds))) (hN : X.N[n]? = some x := by rfl)
    (hv : Vis X.env.scope x := by first | exact Or.inl rfl | exact Or.inr (Or.inl rfl) | exact Or.inr (Or.inr rfl))
    (hd : (x == ("__debug__" : Str)) = false := by decide) (hcd : (x == ("__classdict__" : Str)) = false := by decide) (hg : Gl X "tuple" := by rfl)
    (hs : starEach (.Name x q :: []) X.env = (false, eval (.Name x q) X.env) :: starEach [] X.env := by rfl) (hp : (backTo pos (starEach [] X.env)).any (·.1) = false := by rfl) : PE X (.Call (.Name "tuple" p) [.Name x q] [] pos) (tD ρ (.tpf ds)) :=
  pe_imp (pe_callTy (call_tupF (X := X)) hg hm (by decide +kernel) (pa_cons (pe_var hN hv hd hcd) pa_nil hs) (by decide) (by decide) hs hp) fun σ H Q ⟨B, M0, b, P, S, kk⟩ => by
    obtain ⟨a, xs, ha, hxs, S1⟩ := S.mut hρ
    obtain ⟨M, O⟩ := S1.opn
    refine ⟨_, ha, a, xs, rfl, .inl (.inl hxs), fun p ob hp hob => ?_⟩
    exact kk _ _ ((StV.newTpf (S1.back O (Core.refl O.c.sub) (G := fun M => AtL M ds xs) (Up.atL _ _) O.p.1) ((Up.atL _ _).and S.up) hp hob).imp ((Up.at _ _).and S.up) fun _ _ q => ⟨q.1, q.2.2⟩)
theorem x_minF (hr : Room k X.A) (hm : X.mg "min" = none) (h : PE X e (tG ρ ρ1 (.tpf (dInts (n :: ns))))) (hc : X.calm = true := by rfl) (hg : Gl X "min" := by rfl) (hs : starEach (e :: []) X.env = (false, eval e X.env) :: starEach [] X.env := by rfl) (hp : (backTo pos (starEach [] X.env)).any (·.1) = false := by rfl) : PE X (.Call (.Name "min" p) [e] [] pos) (tG ρ ρ1 (.int (PySem.W.minOf n ns))) :=
  x_blt (call_minT hc hr) (fun B M0 b ρ P σ H vs S uP Q k => by
    obtain ⟨M, O⟩ := S.opn
    obtain ⟨x, e, a, ob, xs, ex, hx, hd, ax⟩ := atL_1 O.p.1
    have ei := ax.ints
    subst ei
    refine ⟨a, n, ns, by rw [e, ex], .inl (.inr ⟨ob, O.c.sub _ _ hx⟩), k _ H ((S.imp uP fun _ _ q => q.2).put fun _ => rfl)⟩) hm (by decide +kernel) (a_cons h a_nil hs) hg (by decide) (by decide) hs hp
/-- t.index(i) -/
theorem x_idxF (h : PE X o (tD ρ (.tpf (dInts ns)))) (he : PE X e (tD ρ (.int i))) (hi : i ∈ ns) (hbase : attributeBase o "index" X.env (eval o X.env) = eval o X.env := by rfl)
    (hfew : ((backTo cpos (starEach [e] X.env)).all (fun x => !x.1) && (backToKw cpos (keywordEach [] X.env)).all (fun x => x.1.isSome) && decide ([e].length + ([] : List Keyword).length + (if ([] : List Keyword).isEmpty then 0 else 1) < 30)) = true := by rfl)
    (hline : (apos.endLine == cpos.line) = true := by rfl) (hst : starEach [e] X.env = (false, eval e X.env) :: starEach [] X.env := by rfl) (hplain : (backTo cpos (starEach [] X.env)).any (·.1) = false := by rfl) : PE X (.Call (.Attribute o "index" apos) [e] [] cpos) (tD ρ (.int (List.idxOf i ns : Nat))) :=
  pe_imp (pe_tupIx h (a_cons he a_nil hst) hbase hfew hline hst hplain) fun σ H Q ⟨B, M0, b, P, S, kk⟩ => ⟨B, M0, b, P, S, fun v H1 S1 => by
    obtain ⟨M, e, ⟨a, ob, xs, ex, hx, hd, ax⟩, _⟩ := S1.know
    have ei := ax.ints
    subst ei
    refine ⟨a, ob, ns, ex, e _ _ hx, hd, B, M0, b, _, S1, fun vs H2 S2 => ?_⟩
    obtain ⟨M2, e2, q2, ⟨a2, ob2, xs2, ex2, hx2, hd2, ax2⟩, _⟩ := S2.know
    obtain ⟨y, ey, hy⟩ := atL_1 q2
    have hy' : y = .int i := hy
    subst hy'
    rw [ex] at ex2
    cases ex2
    have ei := ax2.ints
    subst ei
    exact ⟨i, ey, hi, ⟨ob2, e2 _ _ hx2⟩, kk _ H2 ((S2.imp S.up fun _ _ q => q.2.2).put fun _ => rfl)⟩⟩
end
end Sd

namespace Sd

/-! ### a count, written by a reflected code -/
def dig (s c : Int) : Int := if (c / s) % 2 = 0 then c % s else s - 1 - c % s
def restAt (l : List Int) (c : Int) (i : Nat) : Int := (l.take i).foldl (fun c s => c / s) c
theorem restAt_0 (l : List Int) (c : Int) : restAt l c 0 = c := rfl
theorem restAt_s {l : List Int} {c : Int} {i : Nat} (h : i < l.length) : restAt l c (i + 1) = restAt l c i / l[i] := by
  unfold restAt
  rw [List.take_succ_eq_append_getElem h, List.foldl_append]; rfl
/-- the digits, the least one first (l: the sizes from the last one) -/
def cntR (l : List Int) (c : Int) : List Int := (List.range l.length).map fun i => dig (l.getD i 0) (restAt l c i)
theorem cntR_len {l : List Int} {c : Int} : (cntR l c).length = l.length := by simp [cntR]
theorem cntR_get {l : List Int} {c : Int} {i : Nat} (h : i < l.length) : (cntR l c)[i]? = some (dig l[i] (restAt l c i)) := by
  unfold cntR
  rw [List.getElem?_map, List.getElem?_range h]
  simp only [Option.map_some, List.getD_eq_getElem?_getD, List.getElem?_eq_getElem h, Option.getD_some]
theorem cntR_take {l : List Int} {c : Int} {i : Nat} (h : i < l.length) : (cntR l c).take (i + 1) = (cntR l c).take i ++ [dig l[i] (restAt l c i)] := by
  have hl : i < (cntR l c).length := by rw [cntR_len]; exact h
  rw [List.take_succ_eq_append_getElem hl]
  have := cntR_get (c := c) h
  rw [List.getElem?_eq_getElem hl] at this
  rw [Option.some.inj this]
def counted (ss : List Int) (c : Int) : List Int := (cntR ss.reverse c).reverse
theorem counted_len {ss : List Int} {c : Int} : (counted ss c).length = ss.length := by simp [counted, cntR_len]
/-! ### the count of a row -/
def cofS (c s v : Int) : Int := c * s + (if c % 2 = 0 then v else s - 1 - v)
def cofAt (ss vs : List Int) (i : Nat) : Int := ((ss.take i).zip (vs.take i)).foldl (fun c p => cofS c p.1 p.2) 0
theorem cofAt_0 (ss vs : List Int) : cofAt ss vs 0 = 0 := rfl
theorem cofAt_s {ss vs : List Int} {i : Nat} (h1 : i < ss.length) (h2 : i < vs.length) : cofAt ss vs (i + 1) = cofS (cofAt ss vs i) ss[i] vs[i] := by
  unfold cofAt
  rw [List.take_succ_eq_append_getElem h1, List.take_succ_eq_append_getElem h2, List.zip_append (by rw [List.length_take, List.length_take]; omega), List.foldl_append]; rfl
def cof (ss vs : List Int) : Int := cofAt ss vs ss.length
/-- a row of a code's sizes -/
def RowOk (ss vs : List Int) : Prop := vs.length = ss.length ∧ ∀ (i : Nat) (h1 : i < ss.length) (h2 : i < vs.length), 0 ≤ vs[i] ∧ vs[i] < ss[i]
theorem cofAt_lt {ss vs : List Int} (h : RowOk ss vs) (h2 : ∀ s ∈ ss, 2 ≤ s) : ∀ (i : Nat), i ≤ ss.length → 0 ≤ cofAt ss vs i ∧ cofAt ss vs i < pr (ss.take i)
  | 0, _ => by rw [cofAt_0]; simp [pr]
  | i + 1, hi => by
    obtain ⟨a, b⟩ := cofAt_lt h h2 i (by omega)
    have hv : i < vs.length := by rw [h.1]; omega
    obtain ⟨c, d⟩ := h.2 i (by omega) hv
    rw [cofAt_s (by omega) hv, pr_take (by omega)]
    have e : 0 ≤ (if cofAt ss vs i % 2 = 0 then vs[i] else ss[i] - 1 - vs[i]) ∧ (if cofAt ss vs i % 2 = 0 then vs[i] else ss[i] - 1 - vs[i]) ≤ ss[i] - 1 := by split <;> omega
    have s2 := h2 ss[i] (List.getElem_mem (by omega))
    unfold cofS
    have p1 : 0 ≤ cofAt ss vs i * ss[i] := Int.mul_nonneg a (by omega)
    have p2 : (cofAt ss vs i + 1) * ss[i] ≤ pr (ss.take i) * ss[i] := Int.mul_le_mul_of_nonneg_right (by omega) (by omega)
    rw [Int.add_mul] at p2
    omega
/-! ### the two halves of a core -/
structure Msh where
  l : List Int
  r : List Int
  a : Int
  b : Int
def Msh.L (m : Msh) : Int := pr m.l
def Msh.R (m : Msh) : Int := pr m.r
def Msh.D (m : Msh) : D := .tup [.tup (dInts m.l), .tup (dInts m.r), .int m.L, .int m.R, .int m.a, .int m.b]
structure MOk (m : Msh) : Prop where
  zl : SzB m.l
  zr : SzB m.r
  a2 : 2 ≤ m.a
  aS : Bd 41 m.a
  b2 : 2 ≤ m.b
  bS : Bd 41 m.b
  ka : m.L ≤ m.R * m.a
  kb : m.R ≤ m.L * m.b
section
variable {m : Msh} (h : MOk m)
include h
theorem MOk.L0 : 0 < m.L := h.zl.pos
theorem MOk.R0 : 0 < m.R := h.zr.pos
theorem MOk.LS : Sm m.L := h.zl.sm
theorem MOk.RS : Sm m.R := h.zr.sm
theorem MOk.as : Sm m.a := h.aS.mono (by decide)
theorem MOk.bs : Sm m.b := h.bS.mono (by decide)
end
/-- how many rights stand when the count of lefts becomes k -/
def Msh.g (m : Msh) (k : Int) : Int := if k = 0 then 0 else max ((k - 1) / m.a) (m.R - 1 - m.b * (m.L - k))
/-- the count of lefts at a stage -/
def Msh.Left (m : Msh) (st k : Int) : Prop := 0 ≤ k ∧ k ≤ m.L - 1 ∧ k + m.g k ≤ st ∧ ∀ j, k < j → j ≤ m.L - 1 → st < j + m.g j

/-! ### a search by halving -/
def bsS (p : Int → Bool) (x : Int × Int) : Int × Int := if p ((x.1 + x.2 + 1) / 2) = true then ((x.1 + x.2 + 1) / 2, x.2) else (x.1, (x.1 + x.2 + 1) / 2 - 1)
def bsI (p : Int → Bool) (x : Int × Int) : Nat → Int × Int
  | 0 => x
  | n + 1 => bsS p (bsI p x n)
theorem bsI_shift (p : Int → Bool) (x : Int × Int) : ∀ n, bsI p x (n + 1) = bsI p (bsS p x) n
  | 0 => rfl
  | n + 1 => by
    have := bsI_shift p x n
    show bsS p (bsI p x (n + 1)) = bsS p (bsI p (bsS p x) n)
    rw [this]
/-- p holds at lo; whoever stands above lo and p not, p does not above -/
theorem bs_ex (p : Int → Bool) (hm : ∀ i j, i ≤ j → p j = true → p i = true) : ∀ (d : Nat) (lo hi : Int), (hi - lo).toNat = d → 0 ≤ lo → lo ≤ hi → p lo = true → ∃ n, (∀ i, i ≤ n → decide ((bsI p (lo, hi) i).1 < (bsI p (lo, hi) i).2) = decide (i < n)) ∧ n ≤ d ∧
    (∀ i, i ≤ n → 0 ≤ (bsI p (lo, hi) i).1 ∧ (bsI p (lo, hi) i).1 ≤ (bsI p (lo, hi) i).2 ∧ (bsI p (lo, hi) i).2 ≤ hi ∧ lo ≤ (bsI p (lo, hi) i).1) ∧
    p (bsI p (lo, hi) n).1 = true ∧ ∀ j, (bsI p (lo, hi) n).1 < j → j ≤ hi → p j = false := by
  intro d
  induction d using Nat.strongRecOn with
  | ind d ih =>
    intro lo hi hd h0 hle hp
    by_cases hlt : lo < hi
    · have step : ∀ lo' hi', bsS p (lo, hi) = (lo', hi') → lo ≤ lo' → lo' ≤ hi' → hi' ≤ hi → (hi' - lo').toNat < d → p lo' = true → (∀ j, hi' < j → j ≤ hi → p j = false) → ∃ n, (∀ i, i ≤ n → decide ((bsI p (lo, hi) i).1 < (bsI p (lo, hi) i).2) = decide (i < n)) ∧ n ≤ d ∧
          (∀ i, i ≤ n → 0 ≤ (bsI p (lo, hi) i).1 ∧ (bsI p (lo, hi) i).1 ≤ (bsI p (lo, hi) i).2 ∧ (bsI p (lo, hi) i).2 ≤ hi ∧ lo ≤ (bsI p (lo, hi) i).1) ∧
          p (bsI p (lo, hi) n).1 = true ∧ ∀ j, (bsI p (lo, hi) n).1 < j → j ≤ hi → p j = false := by
        intro lo' hi' e a1 a2 a3 a4 a5 a6
        obtain ⟨n, b1, b2, b3, b4, b5⟩ := ih _ a4 lo' hi' rfl (by omega) a2 a5
        refine ⟨n + 1, fun i hin => ?_, by omega, fun i hin => ?_, ?_, fun j hj1 hj2 => ?_⟩
        · cases i with
          | zero => show decide (lo < _) = _; simp [hlt, bsI]
          | succ i => rw [bsI_shift, e, b1 i (by omega)]; simp
        · cases i with
          | zero => exact ⟨h0, hle, by show hi ≤ hi; omega, by show lo ≤ lo; omega⟩
          | succ i => rw [bsI_shift, e]; have := b3 i (by omega); exact ⟨this.1, this.2.1, by omega, by omega⟩
        · rw [bsI_shift, e]; exact b4
        · rw [bsI_shift, e] at hj1
          by_cases hj : j ≤ hi'
          · exact b5 j hj1 hj
          · exact a6 j (by omega) hj2
      by_cases hpm : p ((lo + hi + 1) / 2) = true
      · exact step ((lo + hi + 1) / 2) hi (by unfold bsS; rw [if_pos hpm]) (by omega) (by omega) (by omega) (by omega) hpm (fun j h1 h2 => by omega)
      · refine step lo ((lo + hi + 1) / 2 - 1) (by unfold bsS; rw [if_neg hpm]) (by omega) (by omega) (by omega) (by omega) hp (fun j h1 h2 => ?_)
        cases hj : p j with
        | false => rfl
        | true => exact absurd (hm _ j (by omega) hj) hpm
    · refine ⟨0, fun i hin => ?_, by omega, fun i hin => ?_, hp, fun j h1 h2 => ?_⟩
      · have : i = 0 := by omega
        subst this
        show decide (lo < hi) = _
        simp [hlt]
      · have : i = 0 := by omega
        subst this
        show 0 ≤ lo ∧ lo ≤ hi ∧ hi ≤ hi ∧ lo ≤ lo
        omega
      · have : lo < j := h1
        omega
end Sd

namespace Sd
open PySem
/-! ### the least of some ints -/
theorem lt_dec (a b : Int) : PySem.W.DatumOrd.lt a b = decide (a < b) := rfl
theorem minOf_spec : ∀ (ns : List Int) (n : Int), PySem.W.minOf n ns ∈ n :: ns ∧ ∀ k ∈ n :: ns, PySem.W.minOf n ns ≤ k
  | [], n => ⟨List.mem_cons_self, fun k hk => by rw [List.mem_singleton.mp hk]; exact Int.le_refl _⟩
  | m :: ns, n => by
    have e : PySem.W.minOf n (m :: ns) = PySem.W.minOf (if PySem.W.DatumOrd.lt m n = true then m else n) ns := rfl
    rw [e, lt_dec]
    by_cases h : m < n
    · rw [if_pos (decide_eq_true h)]
      obtain ⟨a, b⟩ := minOf_spec ns m
      refine ⟨List.mem_cons_of_mem _ a, fun k hk => ?_⟩
      rcases List.mem_cons.mp hk with e | hk
      · have := b m List.mem_cons_self; omega
      · exact b k hk
    · rw [if_neg (by simp only [decide_eq_true_eq]; exact h)]
      obtain ⟨a, b⟩ := minOf_spec ns n
      refine ⟨?_, fun k hk => ?_⟩
      · rcases List.mem_cons.mp a with e | a
        · rw [e]; exact List.mem_cons_self
        · exact List.mem_cons_of_mem _ (List.mem_cons_of_mem _ a)
      · rcases List.mem_cons.mp hk with e | hk
        · rw [e]; exact b n List.mem_cons_self
        · rcases List.mem_cons.mp hk with e | hk
          · have := b n List.mem_cons_self; omega
          · exact b k (List.mem_cons_of_mem _ hk)
def minI : List Int → Int
  | [] => 0
  | n :: ns => PySem.W.minOf n ns
theorem minI_spec {l : List Int} (h : l ≠ []) : minI l ∈ l ∧ ∀ k ∈ l, minI l ≤ k := by
  cases l with
  | nil => exact absurd rfl h
  | cons n ns => exact minOf_spec ns n
/-! ### cuts -/
def cutAt (ss : List Int) (i : Nat) : Int := pr (ss.take (i + 1)) + pr (ss.drop (i + 1)) - 1
def cutsL (ss : List Int) : List Int := (List.range (ss.length - 1)).map (cutAt ss)
theorem cutsL_len {ss : List Int} : (cutsL ss).length = ss.length - 1 := by simp [cutsL]
theorem cutsL_get {ss : List Int} {i : Nat} (h : i < ss.length - 1) : (cutsL ss)[i]? = some (cutAt ss i) := by
  unfold cutsL
  rw [List.getElem?_map, List.getElem?_range h]; rfl
theorem cutsL_take {ss : List Int} {i : Nat} (h : i < ss.length - 1) : (cutsL ss).take (i + 1) = (cutsL ss).take i ++ [cutAt ss i] := by
  have hl : i < (cutsL ss).length := by rw [cutsL_len]; exact h
  rw [List.take_succ_eq_append_getElem hl]
  have := cutsL_get h
  rw [List.getElem?_eq_getElem hl] at this
  rw [Option.some.inj this]
theorem cutsL_ne {ss : List Int} (h : 2 ≤ ss.length) : cutsL ss ≠ [] := fun e => by
  have := cutsL_len (ss := ss)
  rw [e] at this
  simp at this
  omega
/-- the gap of the least cut, from 0 -/
def gapI (ss : List Int) : Nat := List.idxOf (minI (cutsL ss)) (cutsL ss)
theorem gapI_lt {ss : List Int} (h : 2 ≤ ss.length) : gapI ss < ss.length - 1 := by
  have := List.idxOf_lt_length_of_mem (minI_spec (cutsL_ne h)).1
  rw [cutsL_len] at this
  exact this
theorem gapI_cut {ss : List Int} (h : 2 ≤ ss.length) : cutAt ss (gapI ss) = minI (cutsL ss) := by
  have hl : gapI ss < (cutsL ss).length := by rw [cutsL_len]; exact gapI_lt h
  have h1 := cutsL_get (gapI_lt h)
  rw [List.getElem?_eq_getElem hl] at h1
  have h2 : (cutsL ss)[gapI ss] = minI (cutsL ss) := List.getElem_idxOf hl
  rw [← h2]
  exact (Option.some.inj h1).symm
theorem gapI_le {ss : List Int} (h : 2 ≤ ss.length) {i : Nat} (hi : i < ss.length - 1) : cutAt ss (gapI ss) ≤ cutAt ss i := by
  rw [gapI_cut h]
  refine (minI_spec (cutsL_ne h)).2 _ ?_
  exact List.mem_of_getElem? (cutsL_get hi)
theorem pr_drop {ss : List Int} {i : Nat} (h : i < ss.length) : pr (ss.drop i) = ss[i] * pr (ss.drop (i + 1)) := by
  rw [List.drop_eq_getElem_cons h]; rfl
theorem pr_rev : ∀ (l : List Int), pr l.reverse = pr l
  | [] => rfl
  | a :: l => by rw [List.reverse_cons, pr_snoc, pr_rev l]; show pr l * a = a * pr l; exact Int.mul_comm _ _
theorem pr_pos' {ss : List Int} (h : ∀ n ∈ ss, 2 ≤ n) : 0 < pr ss := pr_pos h
/-- the halves of a core -/
def mshOf (ss : List Int) : Msh := ⟨ss.take (gapI ss + 1), (ss.drop (gapI ss + 1)).reverse, ss.getD (gapI ss) 0, ss.getD (gapI ss + 1) 0⟩
theorem getD_get {l : List Int} {i : Nat} (h : i < l.length) : l.getD i 0 = l[i] := by rw [List.getD_eq_getElem?_getD, List.getElem?_eq_getElem h]; rfl
theorem mshOf_ok {ss : List Int} (h : 2 ≤ ss.length) (hs : SzB ss) : MOk (mshOf ss) := by
  have hg := gapI_lt h
  have hg0 : gapI ss < ss.length := by omega
  have hg1 : gapI ss + 1 < ss.length := by omega
  have ea : (mshOf ss).a = ss[gapI ss] := getD_get hg0
  have eb : (mshOf ss).b = ss[gapI ss + 1] := getD_get hg1
  have a2 := hs.two ss[gapI ss] (List.getElem_mem hg0)
  have b2 := hs.two ss[gapI ss + 1] (List.getElem_mem hg1)
  have eR : (mshOf ss).R = pr (ss.drop (gapI ss + 1)) := pr_rev _
  have eL : (mshOf ss).L = pr (ss.take (gapI ss + 1)) := rfl
  have pl : ∀ i, 0 < pr (ss.take i) := fun i => pr_pos fun n hn => hs.two n (List.mem_of_mem_take hn)
  have pd : ∀ i, 0 < pr (ss.drop i) := fun i => pr_pos fun n hn => hs.two n (List.mem_of_mem_drop hn)
  refine ⟨hs.take _, ⟨by show (ss.drop (gapI ss + 1)).reverse.length ≤ 40; rw [List.length_reverse]; exact (hs.drop _).len, fun n hn => (hs.drop _).two n (List.mem_reverse.mp hn), fun n hn => (hs.drop _).bits n (List.mem_reverse.mp hn)⟩, by rw [ea]; exact a2, by rw [ea]; exact (hs.get hg0).2, by rw [eb]; exact b2, by rw [eb]; exact (hs.get hg1).2, ?_, ?_⟩
  · rw [ea, eL, eR, pr_take hg0]
    by_cases h0 : gapI ss = 0
    · have e1 : pr (ss.take (gapI ss)) = 1 := by rw [h0]; rfl
      rw [e1, Int.one_mul]
      have := pd (gapI ss + 1)
      have : 1 * ss[gapI ss] ≤ pr (ss.drop (gapI ss + 1)) * ss[gapI ss] := Int.mul_le_mul_of_nonneg_right (by omega) (by omega)
      omega
    · have hmin := gapI_le h (i := gapI ss - 1) (by omega)
      unfold cutAt at hmin
      have e1 : gapI ss - 1 + 1 = gapI ss := by omega
      rw [e1, pr_take hg0, pr_drop hg0] at hmin
      generalize pr (ss.take (gapI ss)) = l at *
      generalize pr (ss.drop (gapI ss + 1)) = rr at *
      generalize ss[gapI ss] = a at *
      by_cases hlr : l ≤ rr
      · exact Int.mul_le_mul_of_nonneg_right hlr (by omega)
      · exfalso
        have h1 : 0 < (a - 1) * (l - rr) := Int.mul_pos (by omega) (by omega)
        have h2 : (a - 1) * (l - rr) = l * a + rr - l - a * rr := by
          rw [Int.sub_mul, Int.mul_sub, Int.one_mul, Int.mul_comm a l]; omega
        omega
  · rw [eb, eL, eR, pr_drop hg1]
    by_cases h0 : gapI ss + 2 = ss.length
    · have e1 : pr (ss.drop (gapI ss + 1 + 1)) = 1 := by rw [List.drop_of_length_le (by omega)]; rfl
      rw [e1, Int.mul_one]
      have := pl (gapI ss + 1)
      have : 1 * ss[gapI ss + 1] ≤ pr (ss.take (gapI ss + 1)) * ss[gapI ss + 1] := Int.mul_le_mul_of_nonneg_right (by omega) (by omega)
      omega
    · have hmin := gapI_le h (i := gapI ss + 1) (by omega)
      unfold cutAt at hmin
      rw [pr_take hg1, pr_drop hg1] at hmin
      generalize pr (ss.take (gapI ss + 1)) = l at *
      generalize pr (ss.drop (gapI ss + 1 + 1)) = rr at *
      generalize ss[gapI ss + 1] = b at *
      by_cases hlr : rr ≤ l
      · rw [Int.mul_comm b rr]; exact Int.mul_le_mul_of_nonneg_right hlr (by omega)
      · exfalso
        have h1 : 0 < (b - 1) * (rr - l) := Int.mul_pos (by omega) (by omega)
        have h2 : (b - 1) * (rr - l) = b * rr + l - rr - l * b := by
          rw [Int.sub_mul, Int.mul_sub, Int.one_mul, Int.mul_comm b l]; omega
        omega
end Sd

namespace Sd
open PySem PySem.Spec L2
open PyProof.Rows (envOfC IsTup)
theorem sliceRev {prog : Program} {w : World} {A : Around} {E : Value → Shared → Prop} {s : Shared} {sl : Addr} {n : Nat} {u : Tok} {Q : Int × Int × Nat → Shared → Prop} (hs : s.heap.IsSliceOf sl .none .none (.int (-1) u)) (h : Q ((n : Int) - 1, -1, n) s) :
    wpAny (model prog w) A (Builtin.Slice.sliceApplied (.ref sl) (pure (n : Int))) Q E s := by
  obtain ⟨o, ho, hc, hd⟩ := hs
  unfold Builtin.Slice.sliceApplied Builtin.Slice.sliceFields
  refine wpAny_bind (wpAny_bind (wpAny_field (x := .none) ho hd rfl (wpAny_bind (wpAny_field (x := .none) ho hd rfl (wpAny_bind (wpAny_field (x := .int (-1) u) ho hd rfl (wpAny_pure ?_)))))))
  refine wpAny_bind (PyProof.Rows.slicePart_int ?_)
  have e : ((some (-1 : Int)).getD 1 == 0) = false := by decide
  simp only [e, Bool.false_eq_true, if_false]
  refine wpAny_bind (PyProof.Rows.slicePart_none (wpAny_bind (PyProof.Rows.slicePart_none (wpAny_bind (wpAny_pure ?_)))))
  refine wpAny_pure ?_
  have e2 : Builtin.Slice.slicePlaces (Builtin.Slice.sliceAdjust none none ((some (-1 : Int)).getD 1) (n : Int)).1 (Builtin.Slice.sliceAdjust none none ((some (-1 : Int)).getD 1) (n : Int)).2 ((some (-1 : Int)).getD 1) = n := by
    unfold Builtin.Slice.slicePlaces Builtin.Slice.sliceAdjust
    simp only [Option.getD_some]
    have : ¬ ((-1 : Int) > 0) := by decide
    rw [if_neg this]
    have t : (-1 : Int) < 0 := by decide
    simp only [if_pos t]
    by_cases h0 : (n : Int) - 1 > -1
    · rw [if_pos h0]
      have : (-(-1 : Int)) = 1 := by decide
      rw [this, Int.ediv_one]
      omega
    · rw [if_neg h0]; omega
  show Q ((Builtin.Slice.sliceAdjust none none ((some (-1 : Int)).getD 1) (n : Int)).1, (some (-1 : Int)).getD 1, _) s
  rw [e2]
  exact h
theorem fm_map {α β : Type} {f : α → Option β} {g : α → β} : ∀ {l : List α}, (∀ x ∈ l, f x = some (g x)) → l.filterMap f = l.map g
  | [], _ => rfl
  | a :: l, h => by rw [List.filterMap_cons, h a List.mem_cons_self, List.map_cons, fm_map fun x hx => h x (List.mem_cons_of_mem _ hx)]
theorem pickRev (xs : Array Value) : (List.filterMap (fun (k : Nat) => xs[(((xs.size : Int) - 1) + (k : Int) * (-1)).toNat]?) (List.range xs.size)).toArray = xs.toList.reverse.toArray := by
  congr 1
  apply List.ext_getElem?
  intro i
  have hm : List.filterMap (fun (k : Nat) => xs[(((xs.size : Int) - 1) + (k : Int) * (-1)).toNat]?) (List.range xs.size) = (List.range xs.size).map (fun k => xs.getD (xs.size - 1 - k) .none) := by
    refine fm_map fun k hk => ?_
    have hk := List.mem_range.mp hk
    have e : (((xs.size : Int) - 1) + (k : Int) * (-1)).toNat = xs.size - 1 - k := by omega
    rw [e]
    have hlt : xs.size - 1 - k < xs.size := by omega
    simp [Array.getD, hlt]
  rw [hm]
  by_cases hi : i < xs.size
  · rw [List.getElem?_map, List.getElem?_range hi, List.getElem?_reverse (by simpa using hi)]
    have hlt : xs.size - 1 - i < xs.size := by omega
    simp [Array.getD, hlt]
  · rw [List.getElem?_eq_none (by simp; omega), List.getElem?_eq_none (by simp; omega)]
theorem getItem_tuple_rev {prog : Program} {w : World} {A : Around} {E : Value → Shared → Prop} {s : Shared} {t sl : Addr} {items : Array Value} {u : Tok} {Q : Value → Shared → Prop} (ht : IsTup s.heap t items) (hs : s.heap.IsSliceOf sl .none .none (.int (-1) u))
    (h : Q (.ref s.heap.objs.size) { heap := s.heap.push { cls := Value.type "tuple", data := Data.seq items.toList.reverse.toArray }, gens := s.gens, drawn := s.drawn, toks := s.toks, os := s.os }) (hsz : items.size ≤ sizeLine) : wpAny (model prog w) A (getItem (.ref t) (.ref sl)) Q E s := by
  have hTs : s.TypeIs (.ref sl) "slice" := let ⟨o, ho, hc, _⟩ := hs; ⟨o, ho, hc⟩
  unfold getItem
  refine wpAny_holding (wpAny_bind (wpAny_sequenceKey ht.typeIs (by decide) (wpAny_bind (wpAny_callSpecial?_slot ht.typeIs PyProof.Rows.slot_tuple_getitem (wpAny_call_entry PyProof.Rows.slot_tuple_getitem ht.typeIs PyProof.Rows.entry_tuple_getitem ?_ (PyProof.Rows.args_tuple_getitem _ _))))))
  unfold Builtin.«tuple.__getitem__»
  refine wpAny_bind (wpAny_pure ?_)
  refine wpAny_bind (PyProof.Rows.tupleItemsOf_ ht (wpAny_bind (wpAny_typeOf hTs ?_)))
  simp only [beq_self_eq_true, if_true]
  refine wpAny_bind (sliceRev hs ?_)
  have hne : ¬ ((((items.size : Int) - 1 == 0) && ((-1 : Int) == 1) && (items.size == items.size)) = true) := by simp
  simp only [if_neg hne]
  refine wpAny_bind ?_
  rw [pickRev]
  refine wpAny_newObj_type ?_ (by show _ ≤ _; simpa using hsz)
  exact wpAny_pure ⟨_, rfl, wpAny_pure h⟩
section
variable {X : Cx} {ρ ρ1 ρ2 : List Sl} {d : D} {ds : List D} {e : Expr} {te : TE} {pos p1 p2 p3 : Pos} {m : Nat}
theorem pe_revT (h : PE X e te) : PE X (.Subscript e (.Slice none none (some (.UnaryOp .USub (.Constant (.int 1) m p1) p2)) p3) pos) (fun σ H Q => te σ H fun x H1 => ∃ a xs, x = V.ref a ∧ SqT X.K H1 a xs ∧ ∀ p, H1 p = none → Q (.ref p) (upd H1 p (.tup xs.reverse))) := by
  refine ⟨fun pins s σ H Q I hq => ?_⟩
  refine PyProof.Rows.Subscript_ (thn (h.run pins s σ H _ I hq) fun u s1 ⟨x, H1, I1, rx, a, xs, ex, sq, kk⟩ => ?_)
  subst ex
  have eu : u = Value.ref a := rx
  subst eu
  refine PySem.wpAny_Slice ?_
  refine thn (po_none.run pins s1 σ H1 (fun o H2 => o = none ∧ H2 = H1) I1 ⟨rfl, rfl⟩) fun l s2 ⟨o1, H2, I2, pl, eo, eH⟩ => ?_
  subst eo; subst eH
  refine thn (po_none.run pins s2 σ H2 (fun o H3 => o = none ∧ H3 = H2) I2 ⟨rfl, rfl⟩) fun u s3 ⟨o2, H3, I3, pu, eo, eH⟩ => ?_
  subst eo; subst eH
  have hstep : PO X (some (.UnaryOp .USub (.Constant (.int 1) m p1) p2)) (fun σ H Q => Q (some (-1)) H) := ⟨fun pins s σ H Q I h => (po_some (pe_un un_neg pe_int)).run pins s σ H Q I ⟨1, rfl, -1, rfl, h⟩⟩
  refine thn (hstep.run pins s3 σ H3 (fun o H4 => o = some (-1) ∧ H4 = H3) I3 ⟨rfl, rfl⟩) fun st s4 ⟨o3, H4, I4, ps, eo, eH⟩ => ?_
  subst eo; subst eH
  cases pl; cases pu
  cases ps with
  | int i t =>
    have I5 := I4.kept (t' := s4.toks) (h' := s4.heap.push { cls := Value.type "slice", data := Data.fields #[Value.none, Value.none, Value.int (-1) t] }) fun b u e => PySem.Heap.get?_push_of_some _ e
    obtain ⟨its, hits, hl, hlen⟩ := I5.tuple sq
    have hlen2 : its.length = xs.length := hits.length.symm
    have hf := I5.hok.fresh (Nat.le_refl _)
    refine PyProof.Rows.tail_any (ops := [_, _]) hl.typeIs PyProof.Rows.slot_tuple_getitem.lookup (getItem_tuple_rev hl (PySem.Heap.IsSliceOf.new s4.heap _ _ _) ?_ (by rw [List.size_toArray, hlen2]; exact hlen)) rfl
    exact ⟨.ref _, upd H4 _ (.tup xs.reverse), I5.laid (fun b u e => PySem.Heap.get?_push_of_some _ e) (Nat.le_refl _) (by
      simp only [ObjOk]
      exact ⟨by rw [List.length_reverse]; exact hlen, its.reverse, Vals.reverse hits, IsTup.new _ _⟩), rfl, kk _ hf⟩
theorem x_revT (h : PE X e (tD ρ (.tup ds))) : PE X (.Subscript e (.Slice none none (some (.UnaryOp .USub (.Constant (.int 1) m p1) p2)) p3) pos) (tD ρ (.tup ds.reverse)) :=
  pe_imp (pe_revT h) fun σ H Q ⟨B, M0, b, P, S, kk⟩ => ⟨B, M0, b, P, S, fun x H1 S1 => by
    obtain ⟨M, O⟩ := S1.opn
    obtain ⟨⟨a, xs, ex, hx, ax⟩, _⟩ := O.p
    refine ⟨a, xs, ex, .inl (O.c.sub.rd hx), fun p hp => ?_⟩
    exact kk _ _ ((StV.newTup (S1.back O (Core.refl O.c.sub) (G := fun M => AtL M ds.reverse xs.reverse) (Up.atL _ _) ax.reverse) ((Up.at _ _).and S.up) hp).imp ((Up.at _ _).and S.up) fun _ _ q => ⟨q.1, q.2.2⟩)⟩
end
end Sd

namespace Sd
open PySem PySem.Spec L2
open PyProof.Rows (envOfC IsTup)
theorem wp_if {α : Type} {M : Model} {A : Around} {E : Value → Shared → Prop} {s : Shared} {c : Prop} [Decidable c] {t e : Sem α} {Q : α → Shared → Prop} (h1 : wpAny M A t Q E s) (h2 : wpAny M A e Q E s) : wpAny M A (if c then t else e) Q E s := by split <;> assumption
theorem meets_enum1 {v : Value} {o : Obj} {H : Heap → Prop} (b : Begins v o H) : Meets (Builtin.«enumerate.__new__» { pos := [Value.type "enumerate", v] }) fun _ R s => H s.heap ∧ R (Except.ok (Flow.ret (Value.ref (s.heap.push o).objs.size))) { heap := (s.heap.push o).push { cls := Value.type "enumerate", data := Data.fields #[Value.none, Value.bool false, Value.ref s.heap.objs.size, rawInt 0, Value.none, Value.none] }, gens := s.gens, drawn := s.drawn, toks := s.toks, os := s.os } := by
  apply Meets.of_wp
  intro prog w A R s ⟨hH, hR⟩
  unfold Builtin.«enumerate.__new__»
  wp_walk
  rw [sub_enumerate]
  wp_walk
  refine wpAny_stack_any fun st => ?_
  wp_walk
  refine wp_if ?_ ?_
  all_goals
    refine wpAny_bind (wpAny_pure (a := (v, none)) ?_)
    refine wpAny_bind (b.iter prog w _ _ s _ hH ?_)
    wp_walk
    exact ⟨_, rfl, hR⟩
end Sd

namespace Sd
open PySem PySem.Spec L2
open PyProof.Rows (envOfC IsTup)
theorem call_enum1 {prog : Program} {w : World} {A : Around} {E : Value → Shared → Prop} {s : Shared} {v : Value} {o : Obj} {H : Heap → Prop} {Q : Value → Shared → Prop} (b : Begins v o H) (hH : H s.heap)
    (k : ∀ h' : Heap, IsEnum h' (s.heap.objs.size + 1) s.heap.objs.size 0 Value.none → h'.get? s.heap.objs.size = some o → h'.objs.size = s.heap.objs.size + 2 → (∀ (b : Addr) (o : Obj), s.heap.get? b = some o → h'.get? b = some o) → Q (Value.ref (s.heap.objs.size + 1)) { heap := h', gens := s.gens, drawn := s.drawn, toks := s.toks, os := s.os }) :
    wpAny (model prog w) A (call (Value.type "enumerate") [v]) Q E s := by
  refine callType_new PySem.F.called_enumerate (by decide) (PySem.F.typeCall_enumerate_1 v) (PySem.F.newCall_enumerate_1 v) (fun obj => PySem.F.args_object_init_2 obj v) PySem.F.entry_enumerate_new (meets_enum1 b) ⟨hH, ?_⟩
  have sz : (s.heap.push o).objs.size = s.heap.objs.size + 1 := PySem.Heap.size_push ..
  have g1 : ((s.heap.push o).push { cls := Value.type "enumerate", data := Data.fields #[Value.none, Value.bool false, Value.ref s.heap.objs.size, rawInt 0, Value.none, Value.none] }).get? (s.heap.push o).objs.size = some { cls := Value.type "enumerate", data := Data.fields #[Value.none, Value.bool false, Value.ref s.heap.objs.size, rawInt 0, Value.none, Value.none] } := PySem.Heap.get?_push_size _ rfl
  show _ ∧ _
  refine ⟨⟨_, g1, rfl⟩, ?_⟩
  rw [sz] at g1 ⊢
  exact k _ g1 (PySem.Heap.get?_push_of_some _ (PySem.Heap.get?_push_size _ b.free)) (by rw [PySem.Heap.size_push, sz]) fun c u e => PySem.Heap.get?_push_of_some _ (PySem.Heap.get?_push_of_some _ e)
/-- a tuple's items with their places, each a new pair -/
def IteT (K : PySem.W.Frag) (a : Addr) : It where
  go i H := ∃ (xs : List V) (x : V), SqT K H a xs ∧ xs[i]? = some x
  yld i H v H' := ∃ (T : Addr) (x : V), v = .ref T ∧ H T = none ∧ H' = upd H T (.tup [.int i, x]) ∧ ∀ xs : List V, SqT K H a xs → xs[i]? = some x
  stop i H := ∃ xs : List V, SqT K H a xs ∧ xs.length = i
theorem tup_ne {h : Heap} {a b : Addr} {items : Array Value} {o : Obj} (ha : IsTup h a items) (hb : h.get? b = some o) (hc : o.cls ≠ Value.type "tuple") : a ≠ b := fun z => by
  obtain ⟨u, h1, h2, _⟩ := ha
  rw [z, hb] at h1
  cases h1
  exact hc h2
section
variable {P : Program} {w : World} {K : PySem.W.Frag} {elts : List Expr} {kk : Nat} {tpos : Pos}
theorem turn_enumT (a e it : Addr) (hne : e ≠ it) : Turn P w K (.Tuple elts kk tpos) (IteT K a) [e, it] e fun i h => (∃ old, IsEnum h e it (i : Int) old) ∧ h.IsTupleIter it a i := by
  have fin : ∀ (A : Around), A.handled = none → ∀ (s : Shared) (items : Array Value), IsTup s.heap a items → (∃ (i : Nat) (old : Value), IsEnum s.heap e it (i : Int) old ∧ s.heap.IsTupleIter it a i) → GoesN P w A (.Tuple elts kk tpos) e [e, it, a] [e, it] items.size
      (fun i h₀ v h => ∃ T t x, v = Value.ref T ∧ h₀.objs.size ≤ T ∧ items[i]? = some x ∧ h.IsTuple T #[Value.int ((0 : Int) + (i : Int)) t, x]) fun i h => (∃ old, IsEnum h e it ((0 : Int) + (i : Int)) old) ∧ h.IsTupleIter it a i ∧ h.IsTuple a items := by
    intro A hA s items ht ⟨i, old, he, o, ho, hc, _⟩
    have n1 : a ≠ it := tup_ne ht ho (by rw [hc]; decide)
    have n2 : a ≠ e := tup_ne ht he (show Value.type "enumerate" ≠ Value.type "tuple" by decide)
    exact GoesN.enumFrom (elts := elts) (x1 := kk) (pos := tpos) 0 (Draws.tuple (A := A.in1) hA it a n1 items) e hne (by simp only [List.mem_cons, List.not_mem_nil, or_false, not_or]; exact ⟨hne, n2.symm⟩) List.mem_cons_self
  refine ⟨List.mem_cons_self, ?_, ?_, ?_, ?_, ?_⟩
  · rintro i h ⟨⟨old, he⟩, o, ho, hc, hd⟩ b hb
    rcases List.mem_cons.mp hb with rfl | hb
    · exact ⟨_, he, fun v z => by cases z⟩
    · have : b = it := by simpa using hb
      subst this
      exact ⟨o, ho, fun v z => by rw [hd] at z; cases z⟩
  · rintro i h h' ⟨⟨old, he⟩, o, ho, hc, hd⟩ k
    exact ⟨⟨old, k e List.mem_cons_self _ he⟩, o, k it (List.mem_cons_of_mem _ List.mem_cons_self) _ ho, hc, hd⟩
  · intro X hP hw hK hcalm i pins s σ H E I hfp ⟨⟨old, he⟩, hit⟩ ⟨xs, x, sq, hx⟩
    subst hP; subst hw; subst hK
    obtain ⟨its, hits, hl, hlen⟩ := I.tuple sq
    have G := fin X.A (I.ok.hd hcalm) s its.toArray hl ⟨i, old, he, hit⟩
    obtain ⟨u, hu, ru⟩ := hits.get hx
    have hi : i < its.toArray.size := by
      rw [List.size_toArray]
      exact (List.getElem?_eq_some_iff.mp hu).1
    refine G.goes i s _ E hi ⟨⟨old, by rw [Int.zero_add]; exact he⟩, hit, hl⟩ fun v h' tk hY hS hk htk => ?_
    obtain ⟨T, t, y, ev, hT, hy, hTup⟩ := hY
    have ey : u = y := by
      rw [List.getElem?_toArray, hu] at hy
      exact Option.some.inj hy
    subst ey
    have hf : H T = none := I.hok.fresh hT
    have I2 := I.turnedNew (T := T) (ob := .tup [.int i, x]) (t' := tk) hk hfp hT (by
      simp only [ObjOk]
      refine ⟨by show 2 ≤ sizeLine; decide, [Value.int ((0 : Int) + (i : Int)) t, u], .cons ⟨t, by rw [Int.zero_add]⟩ (.cons ru .nil), ?_⟩
      exact hTup)
    refine ⟨.ref T, _, I2, ev, ⟨T, x, rfl, hf, rfl, fun ys hys => ?_⟩, ⟨?_, hS.2.1⟩, fun b hb => ?_⟩
    · rw [I.tuple_inj hys sq]; exact hx
    · obtain ⟨old', h1⟩ := hS.1
      exact ⟨old', by have := h1; rw [Int.zero_add] at this; exact this⟩
    · rw [upd_ne]
      · exact (hfp b hb).1
      · intro z
        have hlt : ∀ c, c ∈ [e, it] → c < s.heap.objs.size := fun c hc => by
          rcases List.mem_cons.mp hc with rfl | hc
          · exact PySem.Heap.lt_size he
          · have : c = it := by simpa using hc
            subst this
            obtain ⟨o, ho, _⟩ := hit
            exact PySem.Heap.lt_size ho
        have := hlt b hb
        rw [z] at this
        exact absurd this (Nat.not_lt.mpr hT)
  · intro X hP hw hK hcalm i pins s σ H E I hfp ⟨⟨old, he⟩, hit⟩ ⟨xs, sq, hx⟩
    subst hP; subst hw; subst hK
    obtain ⟨its, hits, hl, hlen⟩ := I.tuple sq
    have G := fin X.A (I.ok.hd hcalm) s its.toArray hl ⟨i, old, he, hit⟩
    have hn : its.toArray.size = i := by rw [List.size_toArray, ← hx]; exact hits.length.symm
    refine G.stops s (fun s1 => L2.Inv X pins σ H s1) E ⟨⟨old, by rw [Int.zero_add, hn]; exact he⟩, by rw [hn]; exact hit, hl⟩ fun h' tk hk _ => ?_
    exact I.turnedL hk hfp
  · intro A i s Q E ⟨⟨old, he⟩, _⟩ hQ
    exact PySem.wpAny_pyIter_enum he hQ
end
def one1 (f : V → Hp → Prop) : List V → Hp → Prop
  | [x], H => f x H
  | _, _ => False
theorem one1_ok {f : V → Hp → Prop} {vs : List V} {H : Hp} (h : one1 f vs H) : ∃ x, vs = [x] ∧ f x H := by
  match vs, h with
  | [x], h => exact ⟨x, rfl, h⟩
section
variable {X : Cx} {ρ : List Sl} {e e1 e2 e3 : Expr} {te : TE} {p pos tpos : Pos} {elts : List Expr} {kk : Nat} {ys : List D}
theorem iter_new {h h' : Heap} {a t : Addr} (hg : h'.get? a = some { cls := Value.type "tuple_iterator", data := Data.fields #[Value.ref t, Value.int 0 0] }) : h'.IsTupleIter a t 0 := ⟨_, hg, rfl, rfl⟩
theorem pi_enumT (h : PE X e te) (hg : Gl X "enumerate") (hm : X.mg "enumerate" = none) (hs : starEach [e] X.env = (false, eval e X.env) :: starEach [] X.env) (hp : (backTo pos (starEach [] X.env)).any (·.1) = false) :
    PI X (.Tuple elts kk tpos) (.Call (.Name "enumerate" p) [e] [] pos) (fun σ H R => te σ H fun x H1 => ∃ (a : Addr) (xs : List V), x = .ref a ∧ SqT X.K H1 a xs ∧ R (IteT X.K a) H1) := by
  refine ⟨fun pins s σ H R I hq => PyProof.Rows.Call_ (ld_blt I hg hm PyProof.Rows.boot_enumerate (PyProof.Rows.callWith_type1 (thn ((pa_cons h pa_nil hs).run pos pins s σ H (one1 fun x H1 => ∃ (a : Addr) (xs : List V), x = .ref a ∧ SqT X.K H1 a xs ∧ R (IteT X.K a) H1) I hq) fun us s1 ⟨vs, H1, I1, r, hv⟩ => ?_) hs hp) (by decide) (by decide))⟩
  obtain ⟨x, rfl, a, xs, rfl, sq, hR⟩ := one1_ok hv
  obtain ⟨u, rfl, hu⟩ := vals1 r
  have eu : u = Value.ref a := hu
  subst eu
  obtain ⟨its, hits, hl, hlen⟩ := I1.tuple sq
  refine call_enum1 (begins_tuple a its.toArray) hl fun h' g1 g2 g3 g4 => ?_
  refine PySem.wpAny_pyIter_enum g1 ?_
  have I2 := I1.kept (t' := s1.toks) g4
  refine ⟨s1.heap.objs.size + 1, [s1.heap.objs.size + 1, s1.heap.objs.size], _, IteT X.K a, H1, rfl, I2, turn_enumT a _ _ (Nat.succ_ne_self _), ⟨⟨_, g1⟩, iter_new (h := h') g2⟩, fun b hb => ?_, hR⟩
  have hb2 : s1.heap.objs.size ≤ b := by
    rcases List.mem_cons.mp hb with rfl | hb
    · exact Nat.le_succ _
    · have : b = s1.heap.objs.size := by simpa using hb
      subst this; exact Nat.le_refl _
  have F := I1.fpOk hb2 (I1.hok.fresh hb2)
  exact F
/-- places and items -/
def enumD (ys : List D) : List D := (List.range ys.length).map fun (i : Nat) => .tup [.int (i : Int), ys.getD i .non]
theorem enumD_len {ys : List D} : (enumD ys).length = ys.length := by simp [enumD]
theorem enumD_get {ys : List D} {i : Nat} {d : D} (h : (enumD ys)[i]? = some d) : ∃ y, ys[i]? = some y ∧ d = .tup [.int i, y] := by
  have hi : i < ys.length := by have := (List.getElem?_eq_some_iff.mp h).1; rwa [enumD_len] at this
  refine ⟨ys[i], List.getElem?_eq_getElem hi, ?_⟩
  unfold enumD at h
  rw [List.getElem?_map, List.getElem?_range hi] at h
  have := (Option.some.inj h).symm
  rw [this]
  show D.tup [.int (i : Int), ys.getD i .non] = _
  rw [List.getD_eq_getElem?_getD, List.getElem?_eq_getElem hi]; rfl
theorem i_enum (hm : X.mg "enumerate" = none) (h : PE X e (tD ρ (.tup ys))) (hg : Gl X "enumerate" := by rfl) (hs : starEach [e] X.env = (false, eval e X.env) :: starEach [] X.env := by rfl) (hp : (backTo pos (starEach [] X.env)).any (·.1) = false := by rfl) : PI X (.Tuple elts kk tpos) (.Call (.Name "enumerate" p) [e] [] pos) (tI ρ (enumD ys)) :=
  pi_imp (pi_enumT h hg hm hs hp) fun σ H R ⟨B, M0, b, P, S, k⟩ => ⟨B, M0, b, P, S, fun x H1 S1 => by
    obtain ⟨M, O⟩ := S1.opn
    obtain ⟨⟨a, xs, ex, hx, ax⟩, _⟩ := O.p
    have uG : Up (fun M => Rd M a (.tup xs) ∧ AtL M ys xs) := fun _ _ e q => ⟨e.rd q.1, q.2.up e⟩
    have hl := ax.len
    refine ⟨a, xs, ex, .inl (O.c.sub.rd hx), k _ H1 (fun M => Rd M a (.tup xs) ∧ AtL M ys xs) ((S1.back O (Core.refl O.c.sub) uG ⟨hx, ax⟩).imp (uG.and S.up) fun _ _ q => ⟨q.1, q.2.2⟩) uG fun M' H' q e => ⟨fun i d hd => ?_, xs, .inl (e.rd q.1), by rw [enumD_len, hl]⟩⟩
    obtain ⟨y, hy, rfl⟩ := enumD_get hd
    obtain ⟨v, hv, _⟩ := q.2.get hy
    refine ⟨⟨xs, v, .inl (e.rd q.1), hv⟩, fun v H'' z => ?_⟩
    obtain ⟨T, u, e1, e2, e3, f1⟩ := z
    have g1 := q.2.all hy (f1 xs (.inl (e.rd q.1)))
    subst e1; subst e3
    have mT : M' T = none := e.free e2
    have e0 : Ex M' (upd M' T (.tup [.int i, u])) := Ex.new mT
    exact ⟨upd M' T (.tup [.int i, u]), ⟨e.upd2 T _ mT, e0, fun a ha => upd_ne fun z => ha (by rw [z]; exact e2), fun a o ha _ => by rw [upd_ne fun z => by rw [z, e2] at ha; cases ha]; exact ha, fun a ha => by rw [upd_ne fun z => ha (by rw [z]; exact e2)]; exact ha⟩, T, [.int i, u], rfl, .inl upd_same, .int i, [u], rfl, rfl, u, [], rfl, g1.up e0, rfl⟩⟩
end
/-! ### zip of three tuples -/
def Itz3 (K : PySem.W.Frag) (a b c : Addr) : It where
  go i H := ∃ (xs ys zs : List V) (x y z : V), SqT K H a xs ∧ SqT K H b ys ∧ SqT K H c zs ∧ xs[i]? = some x ∧ ys[i]? = some y ∧ zs[i]? = some z
  yld i H v H' := ∃ (T : Addr) (x y z : V), v = .ref T ∧ H T = none ∧ H' = upd H T (.tup [x, y, z]) ∧ (∀ xs : List V, SqT K H a xs → xs[i]? = some x) ∧ (∀ xs : List V, SqT K H b xs → xs[i]? = some y) ∧ ∀ xs : List V, SqT K H c xs → xs[i]? = some z
  stop i H := ∃ xs ys zs : List V, SqT K H a xs ∧ SqT K H b ys ∧ SqT K H c zs ∧ xs.length = i ∧ ys.length = i ∧ zs.length = i
section
variable {P : Program} {w : World} {K : PySem.W.Frag} {elts : List Expr} {kk : Nat} {tpos : Pos}
theorem turn_zip3 (a b c z TI TO i1 i2 i3 : Addr) (sep : a < i1 → b < i1 → c < i1 → ZipSep3 z TI TO i1 i2 i3 [i1, a] [i2, b] [i3, c]) (la : a < i1) (lb : b < i1) (lc : c < i1) : Turn P w K (.Tuple elts kk tpos) (Itz3 K a b c) [z, TI, TO, i1, i2, i3] z fun i h =>
    IsZip h z TI TO Value.none ∧ IsTupOf3 h TI (Value.ref i1) (Value.ref i2) (Value.ref i3) ∧ (∃ a1 a2 a3, IsTupOf3 h TO a1 a2 a3) ∧ h.IsTupleIter i1 a i ∧ h.IsTupleIter i2 b i ∧ h.IsTupleIter i3 c i := by
  have fin : ∀ (A : Around), A.handled = none → ∀ (s : Shared) (ia ib ic : Array Value), IsTup s.heap a ia → IsTup s.heap b ib → IsTup s.heap c ic → (∃ i, s.heap.IsTupleIter i1 a i ∧ s.heap.IsTupleIter i2 b i ∧ s.heap.IsTupleIter i3 c i) → GoesN P w A (.Tuple elts kk tpos) z (z :: TI :: TO :: ([i1, a] ++ [i2, b] ++ [i3, c])) [z, TO, i1, i2, i3] (min (min ia.size ib.size) ic.size)
      (fun i h₀ v h => ∃ T x y u, v = Value.ref T ∧ h₀.objs.size ≤ T ∧ ia[i]? = some x ∧ ib[i]? = some y ∧ ic[i]? = some u ∧ h.IsTuple T #[x, y, u]) fun i h => IsZip h z TI TO Value.none ∧ IsTupOf3 h TI (Value.ref i1) (Value.ref i2) (Value.ref i3) ∧ (∃ a1 a2 a3, IsTupOf3 h TO a1 a2 a3) ∧ (h.IsTupleIter i1 a i ∧ h.IsTuple a ia) ∧ (h.IsTupleIter i2 b i ∧ h.IsTuple b ib) ∧ (h.IsTupleIter i3 c i ∧ h.IsTuple c ic) := by
    intro A hA s ia ib ic ha hb hc ⟨i, ⟨o1, h1, k1, _⟩, ⟨o2, h2, k2, _⟩, ⟨o3, h3, k3, _⟩⟩
    exact GoesN.zip3 (elts := elts) (x1 := kk) (pos := tpos) (sep la lb lc) (Draws.tuple (A := A.in1) hA i1 a (tup_ne ha h1 (by rw [k1]; decide)) ia) (Draws.tuple (A := A.in1) hA i2 b (tup_ne hb h2 (by rw [k2]; decide)) ib) (Draws.tuple (A := A.in1) hA i3 c (tup_ne hc h3 (by rw [k3]; decide)) ic)
  have low : ∀ (b' : Addr), b' ∈ [z, TI, TO, i1, i2, i3] → b' = z ∨ b' = TI ∨ b' = TO ∨ b' = i1 ∨ b' = i2 ∨ b' = i3 := fun b' hb => by simpa using hb
  have wr : ∀ b', b' ∈ [z, TO, i1, i2, i3] → b' ∈ [z, TI, TO, i1, i2, i3] := fun b' hb => by
    simp only [List.mem_cons, List.not_mem_nil, or_false] at hb ⊢
    rcases hb with h | h | h | h | h <;> simp [h]
  refine ⟨List.mem_cons_self, ?_, ?_, ?_, ?_, ?_⟩
  · rintro i h ⟨hz, hT, ⟨a1, a2, a3, hO⟩, ⟨o1, h1, k1, d1⟩, ⟨o2, h2, k2, d2⟩, ⟨o3, h3, k3, d3⟩⟩ b' hb
    rcases low b' hb with rfl | rfl | rfl | rfl | rfl | rfl
    · exact ⟨_, hz, fun v q => by cases q⟩
    · exact ⟨_, hT, fun v q => by cases q⟩
    · exact ⟨_, hO, fun v q => by cases q⟩
    · exact ⟨o1, h1, fun v q => by rw [d1] at q; cases q⟩
    · exact ⟨o2, h2, fun v q => by rw [d2] at q; cases q⟩
    · exact ⟨o3, h3, fun v q => by rw [d3] at q; cases q⟩
  · rintro i h h' ⟨hz, hT, ⟨a1, a2, a3, hO⟩, ⟨o1, h1, k1, d1⟩, ⟨o2, h2, k2, d2⟩, ⟨o3, h3, k3, d3⟩⟩ k
    exact ⟨k z (by simp) _ hz, k TI (by simp) _ hT, ⟨a1, a2, a3, k TO (by simp) _ hO⟩, ⟨o1, k i1 (by simp) _ h1, k1, d1⟩, ⟨o2, k i2 (by simp) _ h2, k2, d2⟩, ⟨o3, k i3 (by simp) _ h3, k3, d3⟩⟩
  · intro X hP hw hK hcalm i pins s σ H E I hfp ⟨hz, hT, hO, t1, t2, t3⟩ ⟨xs, ys, zs, x, y, u, s1, s2, s3, hx, hy, hu⟩
    subst hP; subst hw; subst hK
    obtain ⟨i1', v1, l1, n1⟩ := I.tuple s1
    obtain ⟨i2', v2, l2, n2⟩ := I.tuple s2
    obtain ⟨i3', v3, l3, n3⟩ := I.tuple s3
    have G := fin X.A (I.ok.hd hcalm) s i1'.toArray i2'.toArray i3'.toArray l1 l2 l3 ⟨i, t1, t2, t3⟩
    obtain ⟨ux, hux, rx⟩ := v1.get hx
    obtain ⟨uy, huy, ry⟩ := v2.get hy
    obtain ⟨uu, huu, ru⟩ := v3.get hu
    have e1 := (List.getElem?_eq_some_iff.mp hux).1
    have e2 := (List.getElem?_eq_some_iff.mp huy).1
    have e3 := (List.getElem?_eq_some_iff.mp huu).1
    refine G.goes i s _ E (by rw [List.size_toArray, List.size_toArray, List.size_toArray]; omega) ⟨hz, hT, hO, ⟨t1, l1⟩, ⟨t2, l2⟩, ⟨t3, l3⟩⟩ fun v h' tk hY hS hk htk => ?_
    obtain ⟨T, x', y', u', ev, hT', hx', hy', hu', hTup⟩ := hY
    rw [List.getElem?_toArray, hux] at hx'
    rw [List.getElem?_toArray, huy] at hy'
    rw [List.getElem?_toArray, huu] at hu'
    cases hx'; cases hy'; cases hu'
    have hf : H T = none := I.hok.fresh hT'
    have I2 := I.turnedNew (T := T) (ob := .tup [x, y, u]) (t' := tk) hk (fun b' hb => hfp b' (wr b' hb)) hT' (by
      simp only [ObjOk]
      exact ⟨by show 3 ≤ sizeLine; decide, [ux, uy, uu], .cons rx (.cons ry (.cons ru .nil)), hTup⟩)
    refine ⟨.ref T, _, I2, ev, ⟨T, x, y, u, rfl, hf, rfl, fun q hq => ?_, fun q hq => ?_, fun q hq => ?_⟩, ⟨hS.1, hS.2.1, hS.2.2.1, hS.2.2.2.1.1, hS.2.2.2.2.1.1, hS.2.2.2.2.2.1⟩, fun b' hb => ?_⟩
    · rw [I.tuple_inj hq s1]; exact hx
    · rw [I.tuple_inj hq s2]; exact hy
    · rw [I.tuple_inj hq s3]; exact hu
    · rw [upd_ne]
      · exact (hfp b' hb).1
      · intro q
        have hlt : b' < s.heap.objs.size := by
          obtain ⟨a1, a2, a3, hO⟩ := hO
          obtain ⟨o1, h1, _⟩ := t1
          obtain ⟨o2, h2, _⟩ := t2
          obtain ⟨o3, h3, _⟩ := t3
          rcases low b' hb with e | e | e | e | e | e
          · rw [e]; exact PySem.Heap.lt_size hz
          · rw [e]; exact PySem.Heap.lt_size hT
          · rw [e]; exact PySem.Heap.lt_size hO
          · rw [e]; exact PySem.Heap.lt_size h1
          · rw [e]; exact PySem.Heap.lt_size h2
          · rw [e]; exact PySem.Heap.lt_size h3
        rw [q] at hlt
        exact absurd hlt (Nat.not_lt.mpr hT')
  · intro X hP hw hK hcalm i pins s σ H E I hfp ⟨hz, hT, hO, t1, t2, t3⟩ ⟨xs, ys, zs, s1, s2, s3, hx, hy, hu⟩
    subst hP; subst hw; subst hK
    obtain ⟨i1', v1, l1, n1⟩ := I.tuple s1
    obtain ⟨i2', v2, l2, n2⟩ := I.tuple s2
    obtain ⟨i3', v3, l3, n3⟩ := I.tuple s3
    have G := fin X.A (I.ok.hd hcalm) s i1'.toArray i2'.toArray i3'.toArray l1 l2 l3 ⟨i, t1, t2, t3⟩
    have q1 := v1.length
    have q2 := v2.length
    have q3 := v3.length
    have hn : min (min i1'.toArray.size i2'.toArray.size) i3'.toArray.size = i := by rw [List.size_toArray, List.size_toArray, List.size_toArray]; omega
    refine G.stops s (fun s1 => L2.Inv X pins σ H s1) E ⟨hz, hT, hO, ⟨by rw [hn]; exact t1, l1⟩, ⟨by rw [hn]; exact t2, l2⟩, ⟨by rw [hn]; exact t3, l3⟩⟩ fun h' tk hk _ => ?_
    exact I.turnedL hk fun b' hb => hfp b' (wr b' hb)
  · intro A i s Q E ⟨hz, _⟩ hQ
    exact PySem.wpAny_pyIter_zip hz hQ
end
def thr1 (f : V → V → V → Hp → Prop) : List V → Hp → Prop
  | [x, y, z], H => f x y z H
  | _, _ => False
theorem thr1_ok {f : V → V → V → Hp → Prop} {vs : List V} {H : Hp} (h : thr1 f vs H) : ∃ x y z, vs = [x, y, z] ∧ f x y z H := by
  match vs, h with
  | [x, y, z], h => exact ⟨x, y, z, rfl, h⟩
section
variable {X : Cx} {ρ : List Sl} {e e1 e2 e3 : Expr} {te : TE} {ta : TA} {p pos tpos : Pos} {elts : List Expr} {kk : Nat} {as bs cs : List D}
theorem pi_zip3 (h : PA X [e1, e2, e3] ta) (hg : Gl X "zip") (hm : X.mg "zip" = none) (hs : starEach [e1, e2, e3] X.env = (false, eval e1 X.env) :: starEach [e2, e3] X.env) (hp : (backTo pos (starEach [e2, e3] X.env)).any (·.1) = false) :
    PI X (.Tuple elts kk tpos) (.Call (.Name "zip" p) [e1, e2, e3] [] pos) (fun σ H R => ta σ H (thr1 fun x y z H1 => ∃ (a b c : Addr) (xs ys zs : List V), x = .ref a ∧ y = .ref b ∧ z = .ref c ∧ SqT X.K H1 a xs ∧ SqT X.K H1 b ys ∧ SqT X.K H1 c zs ∧ R (Itz3 X.K a b c) H1)) := by
  refine ⟨fun pins s σ H R I hq => PyProof.Rows.Call_ (ld_blt I hg hm PyProof.Rows.boot_zip (PyProof.Rows.callWith_type1 (thn (h.run pos pins s σ H _ I hq) fun us s1 ⟨vs, H1, I1, r, hv⟩ => ?_) hs hp) (by decide) (by decide))⟩
  obtain ⟨x, y, z, rfl, a, b, c, xs, ys, zs, rfl, rfl, rfl, s1', s2', s3', hR⟩ := thr1_ok hv
  have hus : us = [Value.ref a, Value.ref b, Value.ref c] := by
    cases r with
    | cons h1 r =>
      cases r with
      | cons h2 r =>
        obtain ⟨u, e, h3⟩ := vals1 r
        have e1 : _ = Value.ref a := h1
        have e2 : _ = Value.ref b := h2
        have e3 : u = Value.ref c := h3
        rw [e, e1, e2, e3]
  subst hus
  obtain ⟨ia, v1, l1, n1⟩ := I1.tuple s1'
  obtain ⟨ib, v2, l2, n2⟩ := I1.tuple s2'
  obtain ⟨ic, v3, l3, n3⟩ := I1.tuple s3'
  refine zip_begins3 (begins_tuple a ia.toArray) (begins_tuple b ib.toArray) (begins_tuple c ic.toArray) l1 l2 l3 fun h' g1 g2 g3 g4 g5 g6 g7 g8 => ?_
  refine PySem.wpAny_pyIter_zip g1 ?_
  have I2 := I1.kept (t' := s1.toks) g8
  have lt : ∀ {t : Addr} {it : Array Value}, IsTup s1.heap t it → t < s1.heap.objs.size := fun ⟨o, h, _⟩ => PySem.Heap.lt_size h
  refine ⟨s1.heap.objs.size + 5, [s1.heap.objs.size + 5, s1.heap.objs.size + 3, s1.heap.objs.size + 4, s1.heap.objs.size, s1.heap.objs.size + 1, s1.heap.objs.size + 2], _, Itz3 X.K a b c, H1, rfl, I2, turn_zip3 a b c _ _ _ _ _ _ (fun h1 h2 h3 => zip_sep3 (fun b' hb => by rw [List.mem_singleton.mp hb]; exact h1) (fun b' hb => by rw [List.mem_singleton.mp hb]; exact h2) (fun b' hb => by rw [List.mem_singleton.mp hb]; exact h3)) (lt l1) (lt l2) (lt l3), ⟨g1, g2, ⟨_, _, _, g3⟩, iter_new (h := h') g4, iter_new (h := h') g5, iter_new (h := h') g6⟩, fun b hb => ?_, hR⟩
  have hb2 : s1.heap.objs.size ≤ b := by
    simp only [List.mem_cons, List.not_mem_nil, or_false] at hb
    rcases hb with h | h | h | h | h | h <;> rw [h] <;> first | exact Nat.le_refl _ | exact Nat.le_add_right _ _
  exact I1.fpOk hb2 (I1.hok.fresh hb2)
def zip3D : List D → List D → List D → List D
  | a :: as, b :: bs, c :: cs => .tup [a, b, c] :: zip3D as bs cs
  | _, _, _ => []
theorem zip3D_get : ∀ {as bs cs : List D} {i : Nat} {d : D}, (zip3D as bs cs)[i]? = some d → ∃ a b c, as[i]? = some a ∧ bs[i]? = some b ∧ cs[i]? = some c ∧ d = .tup [a, b, c]
  | a :: as, b :: bs, c :: cs, 0, d, h => ⟨a, b, c, rfl, rfl, rfl, (Option.some.inj (by simpa [zip3D] using h)).symm⟩
  | a :: as, b :: bs, c :: cs, i + 1, d, h => by
    obtain ⟨a', b', c', h1, h2, h3, h4⟩ := zip3D_get (as := as) (bs := bs) (cs := cs) (i := i) (d := d) (by simpa [zip3D] using h)
    exact ⟨a', b', c', by simpa using h1, by simpa using h2, by simpa using h3, h4⟩
  | [], _, _, i, d, h => by simp [zip3D] at h
  | _ :: _, [], _, i, d, h => by simp [zip3D] at h
  | _ :: _, _ :: _, [], i, d, h => by simp [zip3D] at h
theorem zip3D_len : ∀ {as bs cs : List D}, as.length = bs.length → bs.length = cs.length → (zip3D as bs cs).length = as.length
  | a :: as, b :: bs, c :: cs, h1, h2 => by simp only [zip3D, List.length_cons, zip3D_len (as := as) (bs := bs) (cs := cs) (by simpa using h1) (by simpa using h2)]
  | [], _, _, _, _ => by simp [zip3D]
  | _ :: _, [], _, h, _ => by simp at h
  | _ :: _, _ :: _, [], _, h => by simp at h
theorem i_zip3 (hm : X.mg "zip" = none) (h1 : PE X e1 (tD ρ (.tup as))) (h2 : PE X e2 (tD ρ (.tup bs))) (h3 : PE X e3 (tD ρ (.tup cs))) (la : as.length = bs.length) (lb : bs.length = cs.length) (hg : Gl X "zip" := by rfl) (hs : starEach [e1, e2, e3] X.env = (false, eval e1 X.env) :: starEach [e2, e3] X.env := by rfl)
    (hs2 : starEach [e2, e3] X.env = (false, eval e2 X.env) :: starEach [e3] X.env := by rfl) (hs3 : starEach [e3] X.env = (false, eval e3 X.env) :: starEach [] X.env := by rfl) (hp : (backTo pos (starEach [e2, e3] X.env)).any (·.1) = false := by rfl) :
    PI X (.Tuple elts kk tpos) (.Call (.Name "zip" p) [e1, e2, e3] [] pos) (tI ρ (zip3D as bs cs)) :=
  pi_imp (pi_zip3 (a_cons h1 (a_cons h2 (a_cons h3 a_nil hs3) hs2) hs) hg hm hs hp) fun σ H R ⟨B, M0, b, P, S, k⟩ => ⟨B, M0, b, P, S, fun vs H1 S1 => by
    obtain ⟨M, O⟩ := S1.opn
    obtain ⟨x, y, z, ev, ⟨a1, xs1, ex, hx1, ax1⟩, ⟨a2, xs2, ey, hx2, ax2⟩, ⟨a3, xs3, ez, hx3, ax3⟩⟩ := atL_3 O.p.1
    subst ev; subst ex; subst ey; subst ez
    have uG : Up (fun M => (Rd M a1 (.tup xs1) ∧ AtL M as xs1) ∧ (Rd M a2 (.tup xs2) ∧ AtL M bs xs2) ∧ Rd M a3 (.tup xs3) ∧ AtL M cs xs3) := fun _ _ e q => ⟨⟨e.rd q.1.1, q.1.2.up e⟩, ⟨e.rd q.2.1.1, q.2.1.2.up e⟩, e.rd q.2.2.1, q.2.2.2.up e⟩
    have hl1 := ax1.len
    have hl2 := ax2.len
    have hl3 := ax3.len
    refine ⟨a1, a2, a3, xs1, xs2, xs3, rfl, rfl, rfl, .inl (O.c.sub.rd hx1), .inl (O.c.sub.rd hx2), .inl (O.c.sub.rd hx3), k _ H1 (fun M => (Rd M a1 (.tup xs1) ∧ AtL M as xs1) ∧ (Rd M a2 (.tup xs2) ∧ AtL M bs xs2) ∧ Rd M a3 (.tup xs3) ∧ AtL M cs xs3) ((S1.back O (Core.refl O.c.sub) uG ⟨⟨hx1, ax1⟩, ⟨hx2, ax2⟩, hx3, ax3⟩).imp (uG.and S.up) fun _ _ q => ⟨q.1, q.2.2⟩) uG fun M' H' q e => ⟨fun i d hd => ?_, xs1, xs2, xs3, .inl (e.rd q.1.1), .inl (e.rd q.2.1.1), .inl (e.rd q.2.2.1), by rw [zip3D_len la lb]; omega, by rw [zip3D_len la lb]; omega, by rw [zip3D_len la lb]; omega⟩⟩
    obtain ⟨da, db, dc, ha, hb, hc, rfl⟩ := zip3D_get hd
    obtain ⟨va, hva, _⟩ := q.1.2.get ha
    obtain ⟨vb, hvb, _⟩ := q.2.1.2.get hb
    obtain ⟨vc, hvc, _⟩ := q.2.2.2.get hc
    refine ⟨⟨xs1, xs2, xs3, va, vb, vc, .inl (e.rd q.1.1), .inl (e.rd q.2.1.1), .inl (e.rd q.2.2.1), hva, hvb, hvc⟩, fun v H'' z => ?_⟩
    obtain ⟨T, u, w, t, e1, e2, e3, f1, f2, f3⟩ := z
    have g1 := q.1.2.all ha (f1 xs1 (.inl (e.rd q.1.1)))
    have g2 := q.2.1.2.all hb (f2 xs2 (.inl (e.rd q.2.1.1)))
    have g3 := q.2.2.2.all hc (f3 xs3 (.inl (e.rd q.2.2.1)))
    subst e1; subst e3
    have mT : M' T = none := e.free e2
    have e0 : Ex M' (upd M' T (.tup [u, w, t])) := Ex.new mT
    exact ⟨upd M' T (.tup [u, w, t]), ⟨e.upd2 T _ mT, e0, fun a ha => upd_ne fun z => ha (by rw [z]; exact e2), fun a o ha _ => by rw [upd_ne fun z => by rw [z, e2] at ha; cases ha]; exact ha, fun a ha => by rw [upd_ne fun z => ha (by rw [z]; exact e2)]; exact ha⟩, T, [u, w, t], rfl, .inl upd_same, u, [w, t], rfl, g1.up e0, w, [t], rfl, g2.up e0, t, [], rfl, g3.up e0, rfl⟩⟩
theorem zip3I_get {as bs cs : List Int} {i : Nat} {a b c : D} (h : (zip3D (dInts as) (dInts bs) (dInts cs))[i]? = some (.tup [a, b, c])) : ∃ (h1 : i < as.length) (h2 : i < bs.length) (h3 : i < cs.length), a = .int as[i] ∧ b = .int bs[i] ∧ c = .int cs[i] := by
  obtain ⟨a', b', c', h1, h2, h3, e⟩ := zip3D_get h
  cases e
  obtain ⟨l1, e1⟩ := dInts_get h1
  obtain ⟨l2, e2⟩ := dInts_get h2
  obtain ⟨l3, e3⟩ := dInts_get h3
  exact ⟨l1, l2, l3, e1, e2, e3⟩
end
section
variable {X : Cx} {W : WX} {CU : Addr} {ρ : List Sl} {d : D} {ys : List D} {it elt : Expr} {pos p p1 p2 p3 tpos : Pos} {x x1 x2 x3 : Str} {scope : Scope} {kk : Nat} {body : List Stmt} {o : Out}
theorem pg_3 {n m l : Nat} (nd : X.N.Nodup) (hc : X.calm = true) (hN : X.N[n]? = some x1) (hM : X.N[m]? = some x2) (hL : X.N[l]? = some x3) (hx : Loc X.env.scope x1) (hy : Loc X.env.scope x2) (hz : Loc X.env.scope x3) (hf : X.fn x1 = true ∨ X.env.scope.names.lookup x1 = some .local) (hf2 : X.fn x2 = true ∨ X.env.scope.names.lookup x2 = some .local) (hf3 : X.fn x3 = true ∨ X.env.scope.names.lookup x3 = some .local)
    (h1 : (assignEach [.Name x1 p1, .Name x2 p2, .Name x3 p3] X.env).length = 3 := by rfl) (h2 : List.findIdx? (fun x => x.1) (assignEach [.Name x1 p1, .Name x2 p2, .Name x3 p3] X.env) = none := by rfl)
    (h3 : (assignEach [.Name x1 p1, .Name x2 p2, .Name x3 p3] X.env).map (·.2) = assign (.Name x1 p1) X.env :: (assignEach [.Name x2 p2, .Name x3 p3] X.env).map (·.2) := by rfl) (h4 : (assignEach [.Name x2 p2, .Name x3 p3] X.env).map (·.2) = assign (.Name x2 p2) X.env :: (assignEach [.Name x3 p3] X.env).map (·.2) := by rfl) (h5 : (assignEach [.Name x3 p3] X.env).map (·.2) = assign (.Name x3 p3) X.env :: (assignEach [] X.env).map (·.2) := by rfl) :
    PG X (.Tuple [.Name x1 p1, .Name x2 p2, .Name x3 p3] kk tpos) (gTup X.K 3 (gCons (gName n) (gCons (gName m) (gCons (gName l) gNil)))) :=
  pg_tup hc (pgs_cons (pg_name nd hN hx hf) (pgs_cons (pg_name nd hM hy hf2) (pgs_cons (pg_name nd hL hz hf3) pgs_nil h5) h4) h3) h1 h2
theorem x_lc3 (n m l : Nat) (es : Nat → D) (nd : X.N.Nodup) (hi : PI X (.Tuple [.Name x1 p1, .Name x2 p2, .Name x3 p3] kk tpos) it (tI ρ ys)) (hy : ys.length ≤ 100000) (h2 : ∀ (i : Nat) d, ys[i]? = some d → ∃ a b c, d = .tup [a, b, c])
    (he : ∀ (s : Shared) (H : Hp) (C : Addr) (cl : List (Str × Addr)) (fp : List Addr) (i : Nat) a b c, ys[i]? = some (.tup [a, b, c]) → PE (X.blk s H scope (compEnvC scope cl C X.env) fp) elt (tD ((((inBlk ρ [n, m, l]).set n (.val a)).set m (.val b)).set l (.val c)) (es i)))
    (ok : BlkOk X.N X.env.scope scope [(x1, n), (x2, m), (x3, l)] := by exact ⟨rfl, of_decide_eq_true (by kernel_rfl), of_decide_eq_true (by kernel_rfl), of_decide_eq_true (by kernel_rfl), of_decide_eq_true (by kernel_rfl)⟩) (hc : X.calm = true := by rfl)
    (hf : ∀ (s : Shared) (H : Hp) (C : Addr) (cl : List (Str × Addr)) (fp : List Addr), PG (X.blk s H scope (compEnvC scope cl C X.env) fp) (.Tuple [.Name x1 p1, .Name x2 p2, .Name x3 p3] kk tpos) (gTup X.K 3 (gCons (gName n) (gCons (gName m) (gCons (gName l) gNil)))) := by exact fun s H C cl fp => pg_3 (by assumption) rfl rfl rfl rfl (Or.inl rfl) (Or.inl rfl) (Or.inl rfl) (Or.inr rfl) (Or.inr rfl) (Or.inr rfl))
    (hs : ∀ x, foldedSetIterable it X.env x = pure x := by intro _; rfl) : PE X (.ListComp elt [⟨.Tuple [.Name x1 p1, .Name x2 p2, .Name x3 p3] kk tpos, it, [], 0⟩] scope pos) (tD ρ (.lst ((List.range ys.length).map es))) :=
  x_lc (ys := ys) [(x1, n), (x2, m), (x3, l)] es (fun i => thr n m l (inBlk ρ [n, m, l]) (ys.getD i .non)) hc nd hi ok hy hf (fun i d hi => by
    obtain ⟨a, b, c, e⟩ := h2 i d hi
    subst e
    have e : ys.getD i .non = .tup [a, b, c] := by rw [List.getD_eq_getElem?_getD, hi]; rfl
    show TgV _ _ _ _ (thr n m l (inBlk ρ [n, m, l]) (ys.getD i .non))
    rw [e]; exact tv_3 List.mem_cons_self (List.mem_cons_of_mem _ List.mem_cons_self) (List.mem_cons_of_mem _ (List.mem_cons_of_mem _ List.mem_cons_self))) (fun s H C cl fp i hi => by
    obtain ⟨a, b, c, e⟩ := h2 i _ (List.getElem?_eq_getElem hi)
    have e1 : ys[i]? = some (.tup [a, b, c]) := by rw [List.getElem?_eq_getElem hi, e]
    have e2 : ys.getD i .non = .tup [a, b, c] := by rw [List.getD_eq_getElem?_getD, e1]; rfl
    show PE _ _ (tD (thr n m l (inBlk ρ [n, m, l]) (ys.getD i .non)) _)
    rw [e2]; exact he s H C cl fp i a b c e1) hs
theorem zip3D_thr {as bs cs : List D} (i : Nat) (d : D) (h : (zip3D as bs cs)[i]? = some d) : ∃ a b c, d = .tup [a, b, c] := let ⟨a, b, c, _, _, _, e⟩ := zip3D_get h; ⟨a, b, c, e⟩
theorem enumD_two {ys : List D} (i : Nat) (d : D) (h : (enumD ys)[i]? = some d) : ∃ a b, d = .tup [a, b] := let ⟨y, _, e⟩ := enumD_get h; ⟨.int i, y, e⟩
end
end Sd

namespace Sd
open PySem PySem.Spec L2
open PyProof.Rows (envOfC IsTup)
section
variable {X : Cx} {W : WX} {CU : Addr} {ρ : List Sl} {a b c d : D} {e : Expr} {pos p1 p2 p3 p4 tpos : Pos} {x1 x2 x3 x4 : Str} {kk : Nat}
/-- x, y = e -/
theorem s_asg2 (n m : Nat) (nd : X.N.Nodup) (he : PE X e (tD ρ (.tup [a, b]))) (hg : PG X (.Tuple [.Name x1 p1, .Name x2 p2] kk tpos) (gTup X.K 2 (gCons (gName n) (gCons (gName m) gNil))) := by exact pg_2 (by assumption) rfl rfl rfl (Or.inl rfl) (Or.inl rfl) (Or.inl rfl) (Or.inl rfl))
    (h1 : swapsWithSole [.Tuple [.Name x1 p1, .Name x2 p2] kk tpos] e pos.line X.env = pure false := by rfl) (h2 : swappedStores [.Tuple [.Name x1 p1, .Name x2 p2] kk tpos] e X.env = pure none := by rfl) (h3 : (assignEach [.Tuple [.Name x1 p1, .Name x2 p2] kk tpos] X.env).map (·.2) = [assign (.Tuple [.Name x1 p1, .Name x2 p2] kk tpos) X.env] := by rfl) :
    PS X (.Assign [.Tuple [.Name x1 p1, .Name x2 p2] kk tpos] e pos) (tS W CU ρ (.nx ((ρ.set n (.val a)).set m (.val b)))) := s_asg he hg tg_2 h1 h2 h3
theorem tg_4 {K : PySem.W.Frag} {n m l k : Nat} : TgD (gTup K 4 (gCons (gName n) (gCons (gName m) (gCons (gName l) (gCons (gName k) gNil))))) ρ (.tup [a, b, c, d]) ((((ρ.set n (.val a)).set m (.val b)).set l (.val c)).set k (.val d)) := tg_tup (tgs_cons tg_name (tgs_cons tg_name (tgs_cons tg_name (tgs_cons tg_name tgs_nil)))) rfl
theorem pg_4 {n m l k : Nat} (nd : X.N.Nodup) (hc : X.calm = true) (hN : X.N[n]? = some x1) (hM : X.N[m]? = some x2) (hL : X.N[l]? = some x3) (hK : X.N[k]? = some x4) (hx : Loc X.env.scope x1) (hy : Loc X.env.scope x2) (hz : Loc X.env.scope x3) (hw : Loc X.env.scope x4)
    (hf : X.fn x1 = true ∨ X.env.scope.names.lookup x1 = some .local) (hf2 : X.fn x2 = true ∨ X.env.scope.names.lookup x2 = some .local) (hf3 : X.fn x3 = true ∨ X.env.scope.names.lookup x3 = some .local) (hf4 : X.fn x4 = true ∨ X.env.scope.names.lookup x4 = some .local)
    (h1 : (assignEach [.Name x1 p1, .Name x2 p2, .Name x3 p3, .Name x4 p4] X.env).length = 4 := by rfl) (h2 : List.findIdx? (fun x => x.1) (assignEach [.Name x1 p1, .Name x2 p2, .Name x3 p3, .Name x4 p4] X.env) = none := by rfl)
    (h3 : (assignEach [.Name x1 p1, .Name x2 p2, .Name x3 p3, .Name x4 p4] X.env).map (·.2) = assign (.Name x1 p1) X.env :: (assignEach [.Name x2 p2, .Name x3 p3, .Name x4 p4] X.env).map (·.2) := by rfl) (h4 : (assignEach [.Name x2 p2, .Name x3 p3, .Name x4 p4] X.env).map (·.2) = assign (.Name x2 p2) X.env :: (assignEach [.Name x3 p3, .Name x4 p4] X.env).map (·.2) := by rfl)
    (h5 : (assignEach [.Name x3 p3, .Name x4 p4] X.env).map (·.2) = assign (.Name x3 p3) X.env :: (assignEach [.Name x4 p4] X.env).map (·.2) := by rfl) (h6 : (assignEach [.Name x4 p4] X.env).map (·.2) = assign (.Name x4 p4) X.env :: (assignEach [] X.env).map (·.2) := by rfl) :
    PG X (.Tuple [.Name x1 p1, .Name x2 p2, .Name x3 p3, .Name x4 p4] kk tpos) (gTup X.K 4 (gCons (gName n) (gCons (gName m) (gCons (gName l) (gCons (gName k) gNil))))) :=
  pg_tup hc (pgs_cons (pg_name nd hN hx hf) (pgs_cons (pg_name nd hM hy hf2) (pgs_cons (pg_name nd hL hz hf3) (pgs_cons (pg_name nd hK hw hf4) pgs_nil h6) h5) h4) h3) h1 h2
/-- x, y, z, w = e -/
theorem s_asg4 (n m l k : Nat) (nd : X.N.Nodup) (he : PE X e (tD ρ (.tup [a, b, c, d]))) (hg : PG X (.Tuple [.Name x1 p1, .Name x2 p2, .Name x3 p3, .Name x4 p4] kk tpos) (gTup X.K 4 (gCons (gName n) (gCons (gName m) (gCons (gName l) (gCons (gName k) gNil))))) := by exact pg_4 (by assumption) rfl rfl rfl rfl rfl (Or.inl rfl) (Or.inl rfl) (Or.inl rfl) (Or.inl rfl) (Or.inl rfl) (Or.inl rfl) (Or.inl rfl) (Or.inl rfl))
    (h1 : swapsWithSole [.Tuple [.Name x1 p1, .Name x2 p2, .Name x3 p3, .Name x4 p4] kk tpos] e pos.line X.env = pure false := by rfl) (h2 : swappedStores [.Tuple [.Name x1 p1, .Name x2 p2, .Name x3 p3, .Name x4 p4] kk tpos] e X.env = pure none := by rfl) (h3 : (assignEach [.Tuple [.Name x1 p1, .Name x2 p2, .Name x3 p3, .Name x4 p4] kk tpos] X.env).map (·.2) = [assign (.Tuple [.Name x1 p1, .Name x2 p2, .Name x3 p3, .Name x4 p4] kk tpos) X.env] := by rfl) :
    PS X (.Assign [.Tuple [.Name x1 p1, .Name x2 p2, .Name x3 p3, .Name x4 p4] kk tpos] e pos) (tS W CU ρ (.nx ((((ρ.set n (.val a)).set m (.val b)).set l (.val c)).set k (.val d)))) := s_asg he hg tg_4 h1 h2 h3
end
/-! ### lists, tuples of ranges -/
def rgI (a : Int) (n : Nat) : List Int := (List.range n).map fun (i : Nat) => a + (i : Int)
theorem rgI_len {a : Int} {n : Nat} : (rgI a n).length = n := by simp [rgI]
theorem rgI_get {a : Int} {n i : Nat} (h : i < n) : (rgI a n)[i]? = some (a + (i : Int)) := by unfold rgI; rw [List.getElem?_map, List.getElem?_range h]; rfl
theorem rgV_ints {a b : Int} : rgV a b = (rgI a (b - a).toNat).map V.int := by unfold rgV rgI; rw [List.map_map]; rfl
section
variable {X : Cx} {W : WX} {CU : Addr} {ρ : List Sl} {e a c tg : Expr} {pos p p1 p2 : Pos} {n m : Int} {tr : L2.St → Hp → (Int → Int → Hp → Prop) → Prop}
/-- a range's ends -/
def tR (ρ : List Sl) (n m : Int) : L2.St → Hp → (Int → Int → Hp → Prop) → Prop := fun σ H Q => ∃ B M0 b P, StV B M0 b ρ P σ H ∧ ∀ H2, StV B M0 b ρ P σ H2 → Q n m H2
theorem rg_imp {t t' : L2.St → Hp → (Int → Int → Hp → Prop) → Prop} (h : PRg X e t) (k : ∀ σ H Q, t' σ H Q → t σ H Q) : PRg X e t' := fun pins s σ H Q I q => h pins s σ H Q I (k σ H Q q)
theorem rg_1 (hm : X.mg "range" = none) (h : PE X a (tD ρ (.int n))) (hg : Gl X "range" := by rfl) (hs : starEach [a] X.env = (false, eval a X.env) :: starEach [] X.env := by rfl) : PRg X (.Call (.Name "range" p) [a] [] pos) (tR ρ 0 n) := rg_imp (prg_1 hg hm h hs) fun σ H Q ⟨B, M0, b, P, S, k⟩ => ⟨B, M0, b, P, S, fun x H1 S1 => by
  obtain ⟨M, _, h, _⟩ := S1.know
  have e : x = .int n := h
  exact ⟨n, e, k H1 (S1.imp S.up fun _ _ q => q.2)⟩⟩
theorem rg_2 (hm : X.mg "range" = none) (h : PE X a (tD ρ (.int n))) (h2 : PE X c (tD ρ (.int m))) (hg : Gl X "range" := by rfl) (hs : starEach [a, c] X.env = (false, eval a X.env) :: starEach [c] X.env := by rfl) (hs2 : starEach [c] X.env = (false, eval c X.env) :: starEach [] X.env := by rfl) (hp : (backTo pos (starEach [c] X.env)).any (·.1) = false := by rfl) : PRg X (.Call (.Name "range" p) [a, c] [] pos) (tR ρ n m) := rg_imp (prg_2 hg hm h h2 hs hs2 hp) fun σ H Q ⟨B, M0, b, P, S, k⟩ => ⟨B, M0, b, P, S, fun x H1 S1 => ⟨B, M0, b, _, S1, fun y H2 S2 => by
  obtain ⟨M, _, h2, h1, _⟩ := S2.know
  have e1 : x = .int n := h1
  have e2 : y = .int m := h2
  exact ⟨n, m, e1, e2, k H2 (S2.imp S.up fun _ _ q => q.2.2)⟩⟩⟩
theorem x_lstRg (hm : X.mg "list" = none) (h : PRg X e (tR ρ n m)) (hn : -100000 ≤ n ∧ n ≤ 100000 ∧ -100000 ≤ m ∧ m ≤ 100000) (hc : X.calm = true := by rfl) (hg : Gl X "list" := by rfl) (hs : starEach [e] X.env = (false, eval e X.env) :: starEach [] X.env := by rfl) : PE X (.Call (.Name "list" p) [e] [] pos) (tD ρ (.lst (dInts (rgI n (m - n).toNat)))) :=
  pe_imp (pe_listRg hc hg hm h hs) fun σ H Q ⟨B, M0, b, P, S, k⟩ => ⟨B, M0, b, P, S, fun H1 S1 => ⟨⟨by omega, by omega, by omega, by omega, by omega⟩, fun q hq => by
    rw [rgV_ints]
    exact k _ _ (StV.newLst (S1.imp ((Up.atL (dInts (rgI n (m - n).toNat)) _).and S.up) fun M _ p => ⟨AtL.mkInts _, p⟩) S.up hq)⟩⟩
theorem x_tupRg (hm : X.mg "tuple" = none) (h : PRg X e (tR ρ n m)) (hn : -100000 ≤ n ∧ n ≤ 100000 ∧ -100000 ≤ m ∧ m ≤ 100000) (hc : X.calm = true := by rfl) (hg : Gl X "tuple" := by rfl) (hs : starEach [e] X.env = (false, eval e X.env) :: starEach [] X.env := by rfl) : PE X (.Call (.Name "tuple" p) [e] [] pos) (tD ρ (.tup (dInts (rgI n (m - n).toNat)))) :=
  pe_imp (pe_tupRg hc hg hm h hs) fun σ H Q ⟨B, M0, b, P, S, k⟩ => ⟨B, M0, b, P, S, fun H1 S1 => ⟨⟨by omega, by omega, by omega, by omega, by omega⟩, fun q hq => by
    rw [rgV_ints]
    exact k _ _ (StV.newTup (S1.imp ((Up.atL (dInts (rgI n (m - n).toNat)) _).and S.up) fun M _ p => ⟨AtL.mkInts _, p⟩) S.up hq)⟩⟩
/-- reversed(range(n)) -/
theorem i_revRg (hm : X.mg "reversed" = none) (h : PRg X e (tR ρ n m)) (hn : -100000 ≤ n ∧ n ≤ 100000 ∧ -100000 ≤ m ∧ m ≤ 100000) (hg : Gl X "reversed" := by rfl) (hs : starEach [e] X.env = (false, eval e X.env) :: starEach [] X.env := by rfl) : PI X tg (.Call (.Name "reversed" p) [e] [] pos) (tI ρ (rngD (n + (((m - n).toNat : Nat) : Int) - 1) (-1) (m - n).toNat)) :=
  pi_imp (pi_revR hg hm h hs) fun σ H R ⟨B, M0, b, P, S, k⟩ => ⟨B, M0, b, P, S, fun H1 S1 => ⟨by omega, by omega, by omega, by omega, k _ H1 _ (S1.imp (Up.true.and S.up) fun _ _ q => ⟨trivial, q⟩) Up.true good_rngC⟩⟩
end
section
variable {X : Cx} {W : WX} {CU : Addr} {ρ : List Sl} {d : D} {ys : List D} {it elt : Expr} {pos p1 p2 p3 tpos : Pos} {x1 x2 x3 : Str} {scope : Scope} {kk : Nat}
theorem s_lc3 (n m l : Nat) (es : Nat → D) (nd : X.N.Nodup) {y : Str} {py spos : Pos} (j : Nat) (hi : PI X (.Tuple [.Name x1 p1, .Name x2 p2, .Name x3 p3] kk tpos) it (tI ρ ys)) (hy : ys.length ≤ 100000) (h2 : ∀ (i : Nat) d, ys[i]? = some d → ∃ a b c, d = .tup [a, b, c])
    (he : ∀ (s : Shared) (H : Hp) (C : Addr) (cl : List (Str × Addr)) (fp : List Addr) (i : Nat) a b c, ys[i]? = some (.tup [a, b, c]) → PE (X.blk s H scope (compEnvC scope cl C X.env) fp) elt (tD ((((inBlk ρ [n, m, l]).set n (.val a)).set m (.val b)).set l (.val c)) (es i)))
    (hyN : X.N[j]? = some y := by rfl) (hyl : X.env.scope.names.lookup y = some .local := by rfl) (hsw : swapsWith (.ListComp elt [⟨.Tuple [.Name x1 p1, .Name x2 p2, .Name x3 p3] kk tpos, it, [], 0⟩] scope pos) (some (.Name y py)) spos.line X.env = pure true := by rfl)
    (ok : BlkOk X.N X.env.scope scope [(x1, n), (x2, m), (x3, l)] := by exact ⟨rfl, of_decide_eq_true (by kernel_rfl), of_decide_eq_true (by kernel_rfl), of_decide_eq_true (by kernel_rfl), of_decide_eq_true (by kernel_rfl)⟩) (hc : X.calm = true := by rfl)
    (hf : ∀ (s : Shared) (H : Hp) (C : Addr) (cl : List (Str × Addr)) (fp : List Addr), PG (X.blk s H scope (compEnvC scope cl C X.env) fp) (.Tuple [.Name x1 p1, .Name x2 p2, .Name x3 p3] kk tpos) (gTup X.K 3 (gCons (gName n) (gCons (gName m) (gCons (gName l) gNil)))) := by exact fun s H C cl fp => pg_3 (by assumption) rfl rfl rfl rfl (Or.inl rfl) (Or.inl rfl) (Or.inl rfl) (Or.inr rfl) (Or.inr rfl) (Or.inr rfl))
    (hs : ∀ x, foldedSetIterable it X.env x = pure x := by intro _; rfl) : PS X (.Assign [.Name y py] (.ListComp elt [⟨.Tuple [.Name x1 p1, .Name x2 p2, .Name x3 p3] kk tpos, it, [], 0⟩] scope pos) spos) (tS W CU ρ (.nx (ρ.set j (.val (.lst ((List.range ys.length).map es)))))) :=
  s_lc (n := 0) (ys := ys) j [(x1, n), (x2, m), (x3, l)] es (fun i => thr n m l (inBlk ρ [n, m, l]) (ys.getD i .non)) hc nd hyN hyl hsw hi ok hy hf (fun i d hi => by
    obtain ⟨a, b, c, e⟩ := h2 i d hi
    subst e
    have e : ys.getD i .non = .tup [a, b, c] := by rw [List.getD_eq_getElem?_getD, hi]; rfl
    show TgV _ _ _ _ (thr n m l (inBlk ρ [n, m, l]) (ys.getD i .non))
    rw [e]; exact tv_3 List.mem_cons_self (List.mem_cons_of_mem _ List.mem_cons_self) (List.mem_cons_of_mem _ (List.mem_cons_of_mem _ List.mem_cons_self))) (fun s H C cl fp i hi => by
    obtain ⟨a, b, c, e⟩ := h2 i _ (List.getElem?_eq_getElem hi)
    have e1 : ys[i]? = some (.tup [a, b, c]) := by rw [List.getElem?_eq_getElem hi, e]
    have e2 : ys.getD i .non = .tup [a, b, c] := by rw [List.getD_eq_getElem?_getD, e1]; rfl
    show PE _ _ (tD (thr n m l (inBlk ρ [n, m, l]) (ys.getD i .non)) _)
    rw [e2]; exact he s H C cl fp i a b c e1) hs
end
theorem lc_ints {n : Nat} {f : Nat → Int} : (List.range n).map (fun i => D.int (f i)) = dInts ((List.range n).map f) := by unfold dInts; rw [List.map_map]; rfl
theorem i_dn {X : Cx} {ρ : List Sl} {tg a c f : Expr} {i j : Int} {p pos : Pos} (hm : X.mg "range" = none) (ha : PE X a (tD ρ (.int i))) (hc : PE X c (tD ρ (.int j))) (hf : PE X f (tD ρ (.int (-1)))) (h1 : -100000 ≤ i ∧ i ≤ 100000 ∧ -100000 ≤ j ∧ j ≤ 100000) (hg : Gl X "range" := by rfl)
    (hs : starEach [a, c, f] X.env = (false, eval a X.env) :: starEach [c, f] X.env := by rfl) (hs0 : starEach [c, f] X.env = (false, eval c X.env) :: starEach [f] X.env := by rfl) (hs1 : starEach [f] X.env = (false, eval f X.env) :: starEach [] X.env := by rfl) (hp : (backTo pos (starEach [c, f] X.env)).any (·.1) = false := by rfl) :
    PI X tg (.Call (.Name "range" p) [a, c, f] [] pos) (tI ρ (rngD i (-1) (i - j).toNat)) := i_rng3 (w := iRng3 (tA' ρ [.int i, .int j, .int (-1)])) hm ha hc hf h1 (pi_range3 hg hm (a_cons ha (a_cons hc (a_cons hf a_nil hs1) hs0) hs) hs hp)
end Sd

namespace Sd
open PySem PySem.Spec L2
open PyProof.Rows (envOfC)

/-! ### instances: fields stored, read, made -/
theorem putF_no {f : Str} {v : V} : ∀ {ks : List Str} {xs : List V}, fieldIx f ks = none → ks.length = xs.length → putF f v (ks.zip xs) = (ks ++ [f]).zip (xs ++ [v])
  | [], [], _, _ => by simp [putF]
  | k :: ks, x :: xs, h, l => by
    unfold fieldIx at h
    by_cases e : f = k
    · rw [if_pos e] at h; cases h
    · rw [if_neg e] at h
      have h' : fieldIx f ks = none := by cases q : fieldIx f ks with | none => rfl | some i => rw [q] at h; cases h
      have ih := putF_no (v := v) (xs := xs) h' (by simpa using l)
      simp only [List.zip_cons_cons, List.cons_append]
      have e' : ¬ k = f := fun z => e z.symm
      simp only [putF, e, e', if_false, beq_iff_eq, ih]
  | [], _ :: _, _, l => by simp at l
  | _ :: _, [], _, l => by simp at l
theorem putF_at {f : Str} {v : V} : ∀ {ks : List Str} {xs : List V} {j : Nat}, fieldIx f ks = some j → ks.length = xs.length → putF f v (ks.zip xs) = ks.zip (xs.set j v)
  | [], _, _, h, _ => by cases h
  | k :: ks, x :: xs, j, h, l => by
    unfold fieldIx at h
    by_cases e : f = k
    · rw [if_pos e] at h; cases h
      subst e
      simp [putF]
    · rw [if_neg e] at h
      cases q : fieldIx f ks with
      | none => rw [q] at h; cases h
      | some i =>
        rw [q] at h; cases h
        have ih := putF_at (v := v) (xs := xs) q (by simpa using l)
        have e' : ¬ k = f := fun z => e z.symm
        simp only [List.zip_cons_cons, List.set_cons_succ, putF, e, e', if_false, beq_iff_eq, ih]
  | _ :: _, [], _, _, l => by simp at l
section
variable {B M0 : Hp} {b : Option Addr} {ρ : List Sl} {P : Hp → Prop} {σ : St} {H : Hp} {ds : List D} {ks : List Str} {C : Addr} {n : Nat} {s : Sl}
theorem StV.mutI (S : StV B M0 b ρ P σ H) (h0 : ρ[n]? = some s) (hs : s = .own (.ins C ks ds) ∨ s = .box (.ins C ks ds)) :
    ∃ a dx xs, σ[n]? = some (some (.ref a)) ∧ H a = some (.ins C dx (ks.zip xs)) ∧ ks.length = xs.length ∧ StV B M0 b ρ (fun M => AtL M ds xs ∧ P M) σ H := by
  obtain ⟨M, O⟩ := S.opn
  have k := O.s n _ h0
  rcases hs with e | e
  · subst e
    obtain ⟨a, h1, h2, h3, dx, xs, h4, h5, h6⟩ := k
    exact ⟨a, dx, xs, h1, h4, h5, S.back O (Core.refl O.c.sub) (Up.atL ds xs) h6⟩
  · subst e
    obtain ⟨a, h1, h2, h3, dx, xs, h4, h5, h6⟩ := k
    exact ⟨a, dx, xs, h1, h4, h5, S.back O (Core.refl O.c.sub) (Up.atL ds xs) h6⟩
end
section
variable {X : Cx} {W : WX} {CU : Addr} {ρ ρ1 : List Sl} {d : D} {ds fs : List D} {ks : List Str} {C : Addr} {n j : Nat} {s : Sl} {e : Expr} {es : List Expr} {x f : Str} {p p' pos : Pos}
theorem pg_fld {to : TE} {o : Expr} (h : PE X o to) : PG X (.Attribute o f p) (fun v σ H Q => to σ H fun x H1 => ∃ a C dx fs, x = .ref a ∧ H1 a = some (.ins C dx fs) ∧ Cls X.K C ∧ NoAttr X.K C f ∧ fs.length < 1000 ∧ Q σ (upd H1 a (.ins C dx (putF f v fs)))) :=
  ⟨fun pins s σ H v u Q I r q => PySem.W.kas_attr (thn (h.run pins s σ H _ I q) fun ov s1 ⟨x, H1, I1, rx, a, C, dx, fs, ex, ha, c1, c2, c3, q⟩ => by
    subst ex
    have eo : ov = Value.ref a := rx
    subst eo
    exact setattr_ok I1 ha c1 c2 c3 r fun s' I' => ⟨σ, _, I', q⟩)⟩
/-- x.f, x the instance at slot n -/
theorem x_fldM (n j : Nat) (h0 : ρ[n]? = some s) (hs : s = .own (.ins C ks ds) ∨ s = .box (.ins C ks ds)) (cl : Cls X.K C) (na : NoAttr X.K C f) (hf : fieldIx f ks = some j := by rfl) (hd : ds[j]? = some d := by rfl) (hN : X.N[n]? = some x := by rfl)
    (hv : Vis X.env.scope x := by first | exact Or.inl rfl | exact Or.inr (Or.inl rfl) | exact Or.inr (Or.inr rfl)) (hd1 : (x == ("__debug__" : Str)) = false := by decide) (hcd : (x == ("__classdict__" : Str)) = false := by decide)
    (hb : attributeBase (.Name x p) f X.env (eval (.Name x p) X.env) = eval (.Name x p) X.env := by rfl) : PE X (.Attribute (.Name x p) f pos) (tD ρ d) :=
  pe_imp (pe_fld (pe_var hN hv hd1 hcd) hb) fun σ H Q ⟨B, M0, b, P, S, k⟩ => by
    obtain ⟨a, dx, xs, ha, hx, hl, S1⟩ := S.mutI h0 hs
    obtain ⟨M, O⟩ := S1.opn
    obtain ⟨v, hv, av⟩ := O.p.1.get hd
    refine ⟨_, ha, a, C, dx, _, v, rfl, hx, cl, na, lookup_ix hf hv, k v H ?_⟩
    exact (S1.back O (Core.refl O.c.sub) (Up.at d v) av).imp ((Up.at d v).and S.up) fun _ _ q => ⟨q.1, q.2.2⟩
theorem sf_run {ks' : List Str} {ds' : List D} (h0 : ρ[n]? = some s) (hs : s = .own (.ins C ks ds) ∨ s = .box (.ins C ks ds)) (cl : Cls X.K C) (na : NoAttr X.K C f) (hk : ks.length < 1000)
    (hp : ∀ (xs : List V) (y : V), ks.length = xs.length → ∃ xs', putF f y (ks.zip xs) = ks'.zip xs' ∧ ks'.length = xs'.length ∧ ∀ M, AtL M ds xs → At M d y → AtL M ds' xs') (B M0 b P) (σ : St) (H1 : Hp) (y : V) (D : L2.Ends) (S1 : StV B M0 b ρ (fun M => At M d y ∧ P M) σ H1) (uP : Up P) (kk : ∀ σ' H', StV B M0 b (ρ.set n (reSl s (.ins C ks' ds'))) P σ' H' → D.nx σ' H') :
    ∃ v, σ[n]? = some (some v) ∧ ∃ a C dx fs, v = .ref a ∧ H1 a = some (.ins C dx fs) ∧ Cls X.K C ∧ NoAttr X.K C f ∧ fs.length < 1000 ∧ D.nx σ (upd H1 a (.ins C dx (putF f y fs))) := by
  obtain ⟨a, dx, xs, ha, hx, hl, S2⟩ := S1.mutI h0 hs
  obtain ⟨xs', e1, e2, e3⟩ := hp xs y hl
  refine ⟨_, ha, a, C, dx, _, rfl, hx, cl, na, by rw [List.length_zip]; omega, ?_⟩
  rw [e1]
  have S3 := StV.write (s := s) (d1 := .ins C ks' ds') (o := .ins C dx (ks'.zip xs')) S2 h0 (by rcases hs with e | e <;> (subst e; rfl)) ha fun M e q => ⟨dx, xs', upd_same, e2, e3 M q.1 q.2.1⟩
  exact kk σ _ (S3.imp uP fun _ _ q => q.2.2)
theorem sf_new (hf : fieldIx f ks = none) (xs : List V) (y : V) (hl : ks.length = xs.length) : ∃ xs', putF f y (ks.zip xs) = (ks ++ [f]).zip xs' ∧ (ks ++ [f]).length = xs'.length ∧ ∀ M, AtL M ds xs → At M d y → AtL M (ds ++ [d]) xs' :=
  ⟨xs ++ [y], putF_no hf hl, by simp [hl], fun M h1 h2 => h1.append ⟨y, [], rfl, h2, rfl⟩⟩
theorem sf_old (hf : fieldIx f ks = some j) (xs : List V) (y : V) (hl : ks.length = xs.length) : ∃ xs', putF f y (ks.zip xs) = ks.zip xs' ∧ ks.length = xs'.length ∧ ∀ M, AtL M ds xs → At M d y → AtL M (ds.set j d) xs' :=
  ⟨xs.set j y, putF_at hf hl, by simp [hl], fun M h1 h2 => h1.set j h2⟩
/-- x.f = e, f new -/
theorem s_fldN (n : Nat) (he : PE X e (tD ρ d)) (h0 : ρ[n]? = some s) (hs : s = .own (.ins C ks ds) ∨ s = .box (.ins C ks ds)) (cl : Cls X.K C) (na : NoAttr X.K C f) (hk : ks.length < 1000) (hf : fieldIx f ks = none := by rfl) (hN : X.N[n]? = some x := by rfl)
    (hv : Vis X.env.scope x := by first | exact Or.inl rfl | exact Or.inr (Or.inl rfl) | exact Or.inr (Or.inr rfl)) (hd1 : (x == ("__debug__" : Str)) = false := by decide) (hcd : (x == ("__classdict__" : Str)) = false := by decide)
    (hsw : swapsWith e (some (.Attribute (.Name x p) f p')) pos.line X.env = pure false := by rfl) : PS X (.Assign [.Attribute (.Name x p) f p'] e pos) (tS W CU ρ (.nx (ρ.set n (reSl s (.ins C (ks ++ [f]) (ds ++ [d])))))) :=
  ps_imp (ps_fld (pe_var hN hv hd1 hcd) he hsw) fun D σ H ⟨B, M0, b, P, S, k⟩ => ⟨B, M0, b, P, S, fun y H1 S1 => sf_run h0 hs cl na hk (sf_new hf) B M0 b P σ H1 y D S1 S.up k⟩
/-- x.f = e, f there -/
theorem s_fldO (n j : Nat) (he : PE X e (tD ρ d)) (h0 : ρ[n]? = some s) (hs : s = .own (.ins C ks ds) ∨ s = .box (.ins C ks ds)) (cl : Cls X.K C) (na : NoAttr X.K C f) (hk : ks.length < 1000) (hf : fieldIx f ks = some j := by rfl) (hN : X.N[n]? = some x := by rfl)
    (hv : Vis X.env.scope x := by first | exact Or.inl rfl | exact Or.inr (Or.inl rfl) | exact Or.inr (Or.inr rfl)) (hd1 : (x == ("__debug__" : Str)) = false := by decide) (hcd : (x == ("__classdict__" : Str)) = false := by decide)
    (hsw : swapsWith e (some (.Attribute (.Name x p) f p')) pos.line X.env = pure false := by rfl) : PS X (.Assign [.Attribute (.Name x p) f p'] e pos) (tS W CU ρ (.nx (ρ.set n (reSl s (.ins C ks (ds.set j d)))))) :=
  ps_imp (ps_fld (pe_var hN hv hd1 hcd) he hsw) fun D σ H ⟨B, M0, b, P, S, k⟩ => ⟨B, M0, b, P, S, fun y H1 S1 => sf_run h0 hs cl na hk (sf_old hf) B M0 b P σ H1 y D S1 S.up k⟩
end
/-! ### __init__ -/
def spI (C : Addr) (F : List D → List Str → List D → Prop) : Sp := fun vs H Q _ => ∃ (x dx : Addr) (ws : List V) (ds : List D) (ks : List Str) (fs : List D) (M : Hp), vs = .ref x :: ws ∧ H x = some (.ins C dx []) ∧ M x = none ∧ F ds ks fs ∧ Ex M H ∧ AtL M ds ws ∧
  ∀ (dx : Addr) (H' M' : Hp) (xs : List V), CoreB H M x M' H' → H' x = some (.ins C dx (ks.zip xs)) → ks.length = xs.length → AtL M' fs xs → Q .non H'
def entryI (N : List Str) (C : Addr) (ds : List D) : List Sl := .box (.ins C [] []) :: (ds.map .val ++ List.replicate (N.length - (ds.length + 1)) .any)
theorem entryI_get {N : List Str} {C : Addr} {ds : List D} {i : Nat} {s : Sl} (h : (entryI N C ds)[i]? = some s) : s = .any ∨ (i = 0 ∧ s = .box (.ins C [] [])) ∨ ∃ j d, i = j + 1 ∧ ds[j]? = some d ∧ s = .val d := by
  cases i with
  | zero => right; left; exact ⟨rfl, (Option.some.inj h).symm⟩
  | succ i =>
    have h' : (entryB N [] ds)[i + 1]? = some s := h
    rcases entryB_get h' with z | ⟨e, _⟩ | z
    · exact .inl z
    · cases e
    · exact .inr (.inr z)
theorem StV.startI {N : List Str} {H M : Hp} {C dx : Addr} {ds : List D} {ws : List V} {a : Addr} (e : Ex M H) (ha : AtL M ds ws) (hx : H a = some (.ins C dx [])) (mx : M a = none) : StV H M (some a) (entryI N C ds) (fun _ => True) (L2.start N (.ref a :: ws)) H := by
  refine ⟨⟨M, ⟨e, Ex.refl M, fun _ _ => rfl, fun _ _ h _ => h, fun _ h => h⟩, trivial, fun i s hi => ?_⟩, Up.true, ?_, fun i j d e _ h1 _ => ?_, fun i j d e h1 h2 => ?_⟩
  · rcases entryI_get hi with z | ⟨e1, z⟩ | ⟨j, d, e1, hd, z⟩
    · subst z; trivial
    · subst z; subst e1; exact ⟨a, start_get rfl, mx, ⟨rfl, by rw [hx]; exact fun z => by cases z⟩, dx, [], hx, rfl, rfl⟩
    · subst z; subst e1
      obtain ⟨v, hv, av⟩ := ha.get hd
      exact ⟨v, start_get (by simpa using hv), av⟩
  · unfold entryI L2.start
    simp [ha.len]
  · rcases entryI_get h1 with z | ⟨_, z⟩ | ⟨j, d, _, _, z⟩ <;> cases z
  · rcases entryI_get h1 with z | ⟨e1, z⟩ | ⟨j, d, _, _, z⟩
    · cases z
    · rcases entryI_get h2 with z | ⟨e2, z⟩ | ⟨j, d, _, _, z⟩
      · cases z
      · rw [e1, e2]
      · cases z
    · cases z
section
variable {P : Program} {w : World} {K : PySem.W.Frag} {mg : Str → Option Value} {base : Heap} {x qual : Str} {params : Arguments} {body : List Stmt} {scope : Scope} {dvs : List V} {kws : List (Str × V)} {f CU C : Addr} {fd : FuncData} {N ps : List Str} {k : Nat}
theorem okI {F : List D → List Str → List D → Prop} (Fn : FunD K x qual params body scope dvs kws f fd) (S : FnScope N ps scope) (hl : ∀ ds ks fs, F ds ks fs → ds.length + 1 = ps.length)
    (hb : ∀ (cdv : Value) (A : Around) (outer : List Env) (s : Shared) (H : Hp) (E : XK) (ds : List D) (ks : List Str) (fs : List D), Room k (A.deeper (envOfC qual scope s.heap.objs.size f cdv)) → F ds ks fs →
      ∃ ρf, PSs (cxOf (L2.CX P w) P w K mg base N qual scope f cdv A outer s H E) body (tS (wE E) CU (entryI N C ds) (.nx (.box (.ins C ks fs) :: ρf)))) : FnOk P w K mg base (L2.CX P w) (k + 1) f fd ps (spI C F) := by
  refine FunD.ok Fn S (fun vs H Q E h => ?_) (fun cdv A outer s H vs Q E hr h => ?_)
  · obtain ⟨a, dx, ws, ds, ks, fs, M, e, _, _, hF, _, ha, _⟩ := h
    rw [e, List.length_cons, ← ha.len]; exact hl ds ks fs hF
  · obtain ⟨a, dx, ws, ds, ks, fs, M, e, hx, mx, hF, ex, ha, kk⟩ := h
    subst e
    obtain ⟨ρf, hp⟩ := hb cdv A outer s H E ds ks fs hr hF
    refine ⟨_, hp, H, M, some a, _, StV.startI ex ha hx mx, fun σ' H' S' => ?_⟩
    obtain ⟨M', O⟩ := S'.opn
    obtain ⟨a', h1, h2, h3, dx', ys, h4, h5, h6⟩ := O.s 0 _ rfl
    have ea : a = a' := Option.some.inj h3.1
    subst ea
    exact kk dx' H' M' ys ⟨O.c.sub, O.c.old, O.c.eq, fun x o h hne => O.c.keep x o h fun z => hne (Option.some.inj z).symm, O.c.there⟩ h4 h5 h6
end
section
variable {X : Cx} {ρ ρ1 : List Sl} {ds fs : List D} {ks : List Str} {k : Nat} {f C : Addr} {fd : FuncData} {ps : List Str} {x : Str} {p pos : Pos} {e : Expr} {es : List Expr} {F : List D → List Str → List D → Prop}
/-- C(..): a new instance, that does not change from then on -/
theorem x_make (M : Mk X.K C f) (G : FnOk X.prog X.w X.K X.mg X.base (L2.CX X.prog X.w) k f fd ps (spI C F)) (hr : Room (k + 1) X.A) (hm : X.mg x = some (.ref C)) (hb : L2.Binds X.K fd ps []) (ha : PA X (e :: es) (tAG ρ ρ1 ds)) (hF : F ds ks fs)
    (hg : Gl X x := by rfl) (hdb : (x == ("__debug__" : Str)) = false := by decide) (he : starEach (e :: es) X.env = (false, eval e X.env) :: starEach es X.env := by rfl) (hpl : (backTo pos (starEach es X.env)).any (·.1) = false := by rfl) :
    PE X (.Call (.Name x p) (e :: es) [] pos) (tG ρ ρ1 (.ins C ks fs)) :=
  pe_imp (pe_make (E := E0) M G hr hg hm hb .nil passL ha hdb he hpl) fun σ H Q ⟨B, M0, b, P, S, kk⟩ => ⟨B, M0, b, P, S, fun vs H1 S1 y dy hy hdy hne => by
    obtain ⟨M, O⟩ := S1.opn
    have my : M y = none := O.c.sub.free hy
    have mdy : M dy = none := O.c.sub.free hdy
    have h0 : upd (upd H1 dy (.own y)) y (.ins C dy []) y = some (.ins C dy []) := upd_same
    refine ⟨y, dy, vs, ds, ks, fs, M, by rw [List.append_nil], h0, my, hF, fun a o h => ?_, O.p.1, fun dx H' M' xs c hx hl ax => ⟨rfl, ?_⟩⟩
    · rw [upd_ne (fun z => by rw [z, my] at h; cases h), upd_ne (fun z => by rw [z, mdy] at h; cases h)]; exact O.c.sub a o h
    · have m'y : M' y = none := (c.eq y (by rw [h0]; exact fun z => by cases z)).trans my
      have e0 : Ex M' (upd M' y (.ins C dx (ks.zip xs))) := Ex.new m'y
      have hH0 : ∀ a, a ≠ y → a ≠ dy → upd (upd H1 dy (.own y)) y (.ins C dy []) a = H1 a := fun a h1 h2 => by rw [upd_ne h1, upd_ne h2]
      have cc : Core H1 M none (upd M' y (.ins C dx (ks.zip xs))) H' := by
        refine ⟨fun a o h => ?_, c.old.trans e0, fun a ha => ?_, fun a o ha _ => ?_, fun a ha => ?_⟩
        · by_cases z : a = y
          · subst z; rw [upd_same] at h; cases h; exact hx
          · rw [upd_ne z] at h; exact c.sub a o h
        · have n1 : a ≠ y := fun z => ha (z ▸ hy)
          have n2 : a ≠ dy := fun z => ha (z ▸ hdy)
          rw [upd_ne n1]
          exact c.eq a (by rw [hH0 a n1 n2]; exact ha)
        · have n1 : a ≠ y := fun z => by rw [z, hy] at ha; cases ha
          have n2 : a ≠ dy := fun z => by rw [z, hdy] at ha; cases ha
          exact c.keep a o (by rw [hH0 a n1 n2]; exact ha) n1
        · have n1 : a ≠ y := fun z => ha (z ▸ hy)
          have n2 : a ≠ dy := fun z => ha (z ▸ hdy)
          exact c.there a (by rw [hH0 a n1 n2]; exact ha)
      exact kk _ _ ((S1.back O cc (Up.at (.ins C ks fs) (.ref y)) ⟨y, dx, xs, rfl, upd_same, hl, ax.up e0⟩).imp ((Up.at _ _).and S.up) fun _ _ q => ⟨q.1, q.2.2⟩)⟩
end
/-! ### methods, __init__ of the classes, by names -/
structure FoM (Y : Wo) (k : Nat) (C m : Str) (ps : List Str) (F : List D → Res → Prop) : Prop where
  ex : ∃ fd, FnOk Y.P Y.w Y.K Y.mg Y.base (L2.CX Y.P Y.w) k (He.ma Y.K (He.ga Y.K C) m) fd ps (spF (cuA Y.K) F) ∧ L2.Binds Y.K fd ps []
  mt : Meth Y.K (He.ga Y.K C) m (He.ma Y.K (He.ga Y.K C) m)
  cl : Cls Y.K (He.ga Y.K C)
structure FoI (Y : Wo) (k : Nat) (C : Str) (ps : List Str) (F : List D → List Str → List D → Prop) : Prop where
  ex : ∃ fd, FnOk Y.P Y.w Y.K Y.mg Y.base (L2.CX Y.P Y.w) k (He.ma Y.K (He.ga Y.K C) "__init__") fd ps (spI (He.ga Y.K C) F) ∧ L2.Binds Y.K fd ps []
  mkr : Mk Y.K (He.ga Y.K C) (He.ma Y.K (He.ga Y.K C) "__init__")
  g : Y.mg C = some (.ref (He.ga Y.K C))
section
variable {Y : Wo} {C m : Str} {ps N : List Str} {k : Nat}
theorem mkM {F : List D → Res → Prop} (hh : Y.hd) (i j l : Nat) (d : He.DefD) (S : FnScope N ps d.scope) (bq : BindQ d ps) (hl : ∀ ds r, F ds r → ds.length = ps.length)
    (hb : ∀ (cdv : Value) (A : Around) (outer : List Env) (s : Shared) (H : Hp) (E : XK) (ds : List D) (r : Res), Room k (cxY Y d N (He.ma Y.K (He.ga Y.K C) m) cdv A outer s H E).A → F ds r → PSs (cxY Y d N (He.ma Y.K (He.ga Y.K C) m) cdv A outer s H E) d.body (tS (wE E) (cuA Y.K) (entry N ds) (outF (anys N.length) r)))
    (hd : fnL[i]? = some d := by rfl) (hj : faL[j]? = some (.meth C m) := by rfl) (hc : faL[l]? = some (.cls C) := by rfl) (hat : d.at_ = (C, some m) := by rfl) (hv : d.dfl = [] := by rfl) : FoM Y (k + 1) C m ps F := by
  obtain ⟨fd, Fn⟩ := hh.d.def_ i hd
  have ea : He.fAd Y.K d.at_ = He.ma Y.K (He.ga Y.K C) m := by rw [hat]; rfl
  have ed : He.DefD.dvs Y.K d = [] := by
    have : He.DefD.dvs Y.K d = d.dfl.map (He.Dv.v Y.K) := rfl
    rw [this, hv]; rfl
  rw [ea, ed] at Fn
  exact ⟨⟨fd, okF Fn S hl fun cdv A outer s H E ds r hr h => ⟨_, hb cdv A outer s H E ds r hr h⟩, FunD.bindsN Fn bq⟩, hh.meth j hj, hh.cls l hc⟩
theorem mkI {F : List D → List Str → List D → Prop} (hh : Y.hd) (i j l : Nat) (d : He.DefD) (S : FnScope N ps d.scope) (bq : BindQ d ps) (hl : ∀ ds ks fs, F ds ks fs → ds.length + 1 = ps.length)
    (hb : ∀ (cdv : Value) (A : Around) (outer : List Env) (s : Shared) (H : Hp) (E : XK) (ds : List D) (ks : List Str) (fs : List D), Room k (cxY Y d N (He.ma Y.K (He.ga Y.K C) "__init__") cdv A outer s H E).A → F ds ks fs → ∃ ρf, PSs (cxY Y d N (He.ma Y.K (He.ga Y.K C) "__init__") cdv A outer s H E) d.body (tS (wE E) (cuA Y.K) (entryI N (He.ga Y.K C) ds) (.nx (.box (.ins (He.ga Y.K C) ks fs) :: ρf))))
    (hd : fnL[i]? = some d := by rfl) (hj : faL[j]? = some (.mkr C) := by rfl) (hg : faL[l]? = some (.glo C) := by rfl) (hat : d.at_ = (C, some ("__init__" : Str)) := by rfl) (hv : d.dfl = [] := by rfl) : FoI Y (k + 1) C ps F := by
  obtain ⟨fd, Fn⟩ := hh.d.def_ i hd
  have ea : He.fAd Y.K d.at_ = He.ma Y.K (He.ga Y.K C) "__init__" := by rw [hat]; rfl
  have ed : He.DefD.dvs Y.K d = [] := by
    have : He.DefD.dvs Y.K d = d.dfl.map (He.Dv.v Y.K) := rfl
    rw [this, hv]; rfl
  rw [ea, ed] at Fn
  exact ⟨⟨fd, okI Fn S hl hb, FunD.bindsN Fn bq⟩, hh.mkr j hj, hh.glo l hg⟩
end
section
variable {X : Cx} {W : WX} {ρ ρ1 : List Sl} {d : D} {ds fs : List D} {ks : List Str} {r : Res} {F : List D → Res → Prop} {j k : Nat} {ps : List Str} {C m x : Str} {p apos pos : Pos} {e o : Expr} {es : List Expr}
/-- C(..) -/
theorem x_mk {F : List D → List Str → List D → Prop} (G : FoI ⟨X.prog, X.w, X.K, X.mg, X.base⟩ j C ps F) (hr : Room k X.A) (ha : PA X (e :: es) (tAG ρ ρ1 ds)) (hF : F ds ks fs) (hj : j + 1 ≤ k := by decide)
    (hg : Gl X C := by rfl) (hdb : (C == ("__debug__" : Str)) = false := by decide) (he : starEach (e :: es) X.env = (false, eval e X.env) :: starEach es X.env := by rfl) (hpl : (backTo pos (starEach es X.env)).any (·.1) = false := by rfl) :
    PE X (.Call (.Name C p) (e :: es) [] pos) (tG ρ ρ1 (.ins (He.ga X.K C) ks fs)) := let ⟨_, G1, b1⟩ := G.ex; x_make G.mkr G1 (hr.mono hj) G.g b1 ha hF hg hdb he hpl
/-- o.m(..) that raises nothing here -/
theorem x_m {pl : Sem Bool} (G : FoM ⟨X.prog, X.w, X.K, X.mg, X.base⟩ j C m ps F) (hr : Room k X.A) (h : PE X o (tD ρ (.ins (He.ga X.K C) ks fs))) (ha : PA X (e :: es) (tA' ρ ds)) (hF : F (.ins (He.ga X.K C) ks fs :: ds) (.ok d)) (hno : fieldIx m ks = none := by rfl) (hj : j ≤ k := by decide)
    (hst : starEach (e :: es) X.env = (false, eval e X.env) :: starEach es X.env := by rfl) (hpl : (backTo pos (starEach es X.env)).any (·.1) = false := by rfl)
    (ht : eval (.Call (.Attribute o m apos) (e :: es) [] pos) X.env = (do
      let ov ← eval o X.env
      standAt apos.atName
      let (f, first) ← holding [ov] (getMethod ov m pl)
      callWith pos f first (backTo pos (starEach (e :: es) X.env)) (backToKw pos (keywordEach [] X.env))) := by rfl) :
    PE X (.Call (.Attribute o m apos) (e :: es) [] pos) (tD ρ d) := let ⟨_, G1, b1⟩ := G.ex; x_meth h G.cl G.mt hno G1 (hr.mono hj) b1 ha hF hst hpl ht
/-- o.m(..) that may raise -/
theorem x_mX {pl : Sem Bool} (G : FoM ⟨X.prog, X.w, X.K, X.mg, X.base⟩ j C m ps F) (hr : Room k X.A) (tk : Takes X W) (h : PE X o (tD ρ (.ins (He.ga X.K C) ks fs))) (ha : PA X (e :: es) (tA' ρ ds)) (hF : F (.ins (He.ga X.K C) ks fs :: ds) r) (hno : fieldIx m ks = none := by rfl) (hj : j ≤ k := by decide)
    (hst : starEach (e :: es) X.env = (false, eval e X.env) :: starEach es X.env := by rfl) (hpl : (backTo pos (starEach es X.env)).any (·.1) = false := by rfl)
    (ht : eval (.Call (.Attribute o m apos) (e :: es) [] pos) X.env = (do
      let ov ← eval o X.env
      standAt apos.atName
      let (f, first) ← holding [ov] (getMethod ov m pl)
      callWith pos f first (backTo pos (starEach (e :: es) X.env)) (backToKw pos (keywordEach [] X.env))) := by rfl) :
    PE X (.Call (.Attribute o m apos) (e :: es) [] pos) (tX W (cuA X.K) ρ r) := let ⟨_, G1, b1⟩ := G.ex; x_methX h G.cl G.mt hno G1 (hr.mono hj) b1 tk ha hF hst hpl ht
end
section
variable {X : Cx} {W : WX} {CU : Addr} {ρ ρ1 : List Sl} {d1 d2 : D} {a c : Expr} {pos px py pt pt2 : Pos} {x y : Str} {kt k2 : Nat}
/-- x, y = a, c -/
theorem s_par (n m : Nat) (nd : X.N.Nodup) (ha : PA X [a, c] (tAG ρ ρ1 [d1, d2])) (hij : n ≠ m := by decide) (hc : X.calm = true := by rfl) (hN : X.N[n]? = some x := by rfl) (hM : X.N[m]? = some y := by rfl) (hx : X.env.scope.names.lookup x = some .local := by rfl) (hy : X.env.scope.names.lookup y = some .local := by rfl)
    (hw : swappedStores [.Tuple [.Name x px, .Name y py] kt pt] (.Tuple [a, c] k2 pt2) X.env = pure (some [x, y]) := by rfl) : PS X (.Assign [.Tuple [.Name x px, .Name y py] kt pt] (.Tuple [a, c] k2 pt2) pos) (tS W CU ρ (.nx ((ρ1.set n (.val d1)).set m (.val d2)))) :=
  ps_imp (ps_par hc nd hN hM hij hx hy ha hw) fun D σ H ⟨B, M0, b, P, S, k⟩ => ⟨B, M0, b, P, S, fun vs H1 S1 => by
    obtain ⟨M, _, q, _⟩ := S1.know
    obtain ⟨v, w, e, _, _⟩ := atL_2 q
    subst e
    refine ⟨v, w, rfl, k _ _ ?_⟩
    have S2 : StV B M0 b ρ1 (fun M => At M d1 v ∧ At M d2 w ∧ P M) σ H1 := S1.imp ((Up.at d1 v).and ((Up.at d2 w).and S.up)) fun M _ q => by
      obtain ⟨v', w', e, h1, h2⟩ := atL_2 q.1
      cases e
      exact ⟨h1, h2, q.2⟩
    exact (S2.setVal ((Up.at d2 w).and S.up) n).setVal S.up m⟩
end
end Sd

namespace Sd
open PySem PySem.Spec L2
open PyProof.Rows (envOfC)

/-! ### raise Unseen(k) -/
theorem oex_of {K : PySem.W.Frag} {x : Str} (h : oexB K x = true) : OexC K (He.ga K x) ∧ PySem.W.findIn K (.ref (He.ga K x)) "__init__" = some (some (.ref (He.ma K (He.ga K x) "__init__"))) ∧ PySem.W.typeIn K (.ref (He.ma K (He.ga K x) "__init__")) = some (.type "function") ∧
    PySem.W.findIn K (.ref (He.ga K x)) "place" = some none ∧ PySem.W.exmOne K (.ref (He.ga K x)) (.ref (He.ga K x)) = some true ∧ XfC K (He.ga K x) := by
  unfold oexB at h
  simp only [Bool.and_eq_true, decide_eq_true_eq] at h
  obtain ⟨h0, h1, h2, h3, h4, h5, h6, h7, h8, h9, h10, h11⟩ := h
  refine ⟨⟨?_, h1, h2, h3, h4⟩, h5, h6, h7, h8, h9, h10, h2, h11⟩
  split at h0
  · rename_i dict cd sl hl
    split at h0
    · rename_i C bm k0 k1 k2 k3 n k5 hm hs
      simp only [Bool.and_eq_true, decide_eq_true_eq] at h0
      obtain ⟨⟨⟨⟨e1, e2⟩, e3⟩, e5⟩, e4⟩ := h0
      subst e1; subst e2
      refine ⟨cd.name, cd.qualname, cd.ns, cd.bases, bm, cd.slotNames, cd.subclasses, cd.abstract, cd.collection, dict, k0, k1, k2, k3, k5, ?_, e4⟩
      rw [hl]
      have hs' : sl = #[k0, k1, k2, k3, some (.builtin "ValueError.__new__"), k5] := by
        rw [← Array.toArray_toList (xs := sl), hs]
      rw [hs']
      cases cd
      simp only [Bool.not_eq_true'] at hm e3 e5
      subst hm; subst e3; subst e5
      rfl
    · cases h0
  · cases h0
def spU (C : Addr) : Sp := fun vs H Q _ => ∃ (a : Addr) (k : Int), vs = [.ref a, .int k] ∧ H a = some (exo a C none) ∧ ∀ dx, H dx = none → dx ≠ a → Q .non (upd (upd H dx (exd dx [(("place" : Str), .int k)])) a (exo a C (some dx)))
theorem sc_Unseen : FnScope ["self", "place"] ["self", "place"] (defScope s_Unseen_init) := ⟨rfl, rfl, rfl, by decide +kernel, rfl, by decide +kernel, by decide +kernel⟩
structure FoU (Y : Wo) : Prop where
  ex : ∃ fd, FnOk Y.P Y.w Y.K Y.mg Y.base (L2.CX Y.P Y.w) 1 (He.ma Y.K (cuA Y.K) "__init__") fd ["self", "place"] (spU (cuA Y.K)) ∧ L2.Binds Y.K fd ["self", "place"] []
  o : OexC Y.K (cuA Y.K)
  i : PySem.W.findIn Y.K (.ref (cuA Y.K)) "__init__" = some (some (.ref (He.ma Y.K (cuA Y.K) "__init__")))
  t : PySem.W.typeIn Y.K (.ref (He.ma Y.K (cuA Y.K) "__init__")) = some (.type "function")
  x : PySem.W.exmOne Y.K (.ref (cuA Y.K)) (.ref (cuA Y.K)) = some true
  g : Y.mg "Unseen" = some (.ref (cuA Y.K))
  f : XfC Y.K (cuA Y.K)
  n : PySem.W.findIn Y.K (.ref (cuA Y.K)) "place" = some none
theorem fo_Unseen {Y : Wo} (hh : Y.hd) : FoU Y := by
  obtain ⟨o, i, t, pl, x, xf⟩ := oex_of hh.e
  obtain ⟨fd, Fn⟩ := hh.d.def_ 73 (d := ds_Unseen_init) rfl
  refine ⟨⟨fd, FunD.ok (N := ["self", "place"]) Fn sc_Unseen (fun vs H Q E h => ?_) (fun cdv A outer s H vs Q E hr h => ?_), FunD.bindsN Fn fun _ _ _ _ _ _ us hl => match us, hl with | [_, _], _ => rfl⟩, o, i, t, x, hh.glo 73, xf, pl⟩
  · obtain ⟨a, k, rfl, _⟩ := h; rfl
  · refine ⟨_, pss_cons (ps_ost (pv 0) (pv 1)) pss_nil, ?_⟩
    obtain ⟨a, k, rfl, ha, q⟩ := h
    refine ⟨_, rfl, _, rfl, a, cuA Y.K, rfl, o, pl, .inl ⟨ha, fun dx h1 h2 => q dx h1 h2⟩⟩
section
variable {X : Cx} {W : WX} {ρ : List Sl} {e : Expr} {k : Int} {j : Nat} {p pos pos2 : Pos}
theorem s_raise (U : FoU ⟨X.prog, X.w, X.K, X.mg, X.base⟩) (hr : Room j X.A) (tk : Takes X W) (he : PE X e (tD ρ (.int k))) (hx : Passes (L2.CX X.prog X.w) X fun _ _ _ => False) (hj : 2 ≤ j := by decide) (hc : X.calm = true := by rfl) (hg : Gl X "Unseen" := by rfl)
    (hs : starEach (e :: []) X.env = (false, eval e X.env) :: starEach [] X.env := by rfl) (hpl : (backTo pos (starEach [] X.env)).any (·.1) = false := by rfl) :
    PS X (.Raise (some (.Call (.Name "Unseen" p) [e] [] pos)) none pos2) (tS W (cuA X.K) ρ (.ex ρ k)) := by
  obtain ⟨fd, G1, b1⟩ := U.ex
  refine ps_imp (ps_raise hc tk (pmk_oex (ds := []) (dvs := []) U.o U.i U.t G1 (hr.mono hj) b1 .nil hx hg U.g (pa_cons he pa_nil hs) (by decide) hs hpl)) fun D σ H ⟨B, M0, b, P, S, kk⟩ => ⟨B, M0, b, P, S, fun y H1 S1 => ?_⟩
  obtain ⟨M, _, hy, _⟩ := S1.know
  have ey : y = .int k := hy
  subst ey
  have S2 : StV B M0 b ρ P σ H1 := S1.imp S.up fun _ _ q => q.2
  refine ⟨by show 1 ≤ 1000; decide, fun a ha => ⟨a, k, rfl, upd_same, fun dx hdx hne => ⟨rfl, dx, [(("place" : Str), .int k)], upd_same, by rw [upd_ne hne, upd_same], ?_, ?_⟩⟩⟩
  · rw [upd_ne hne] at hdx; exact hdx
  · have hdx1 : H1 dx = none := by rw [upd_ne hne] at hdx; exact hdx
    have eH : upd (del (upd (upd (upd H1 a (exo a (cuA X.K) none)) dx (exd dx [(("place" : Str), .int k)])) a (exo a (cuA X.K) (some dx))) a) dx (.xd [(("place" : Str), .int k)]) = upd H1 dx (placeO k) := by
      funext y
      by_cases e1 : y = dx
      · subst e1; rw [upd_same, upd_same]; rfl
      · rw [upd_ne e1, upd_ne e1]
        by_cases e2 : y = a
        · subst e2; rw [ha]; simp [del]
        · show (if y = a then none else upd (upd (upd H1 a (exo a (cuA X.K) none)) dx (exd dx [(("place" : Str), .int k)])) a (exo a (cuA X.K) (some dx)) y) = H1 y
          rw [if_neg e2, upd_ne e2, upd_ne e1, upd_ne e2]
    rw [eH]
    exact kk dx σ _ ((S2.grow (o := placeO k) (G := fun _ => True) hdx1 Up.true fun _ _ _ => trivial).imp S.up fun _ _ q => q.2) upd_same
theorem s_exw {CU : Addr} {ρ' : List Sl} {st : Stmt} (h : PS X st (tS W CU ρ (.ex ρ k))) (hs : SubL ρ' ρ) : PS X st (tS W CU ρ (.ex ρ' k)) := ps_imp h fun D σ H ⟨B, M0, b, P, S, kk⟩ => ⟨B, M0, b, P, S, fun dd σ' H' S' hd => kk dd σ' H' (S'.sub hs.sub) hd⟩
/-- raise Unseen(e) as the last statement -/
theorem r_raise {sts : List Stmt} {ρ' : List Sl} (U : FoU ⟨X.prog, X.w, X.K, X.mg, X.base⟩) (hr : Room j X.A) (he : PE X e (tD ρ (.int k))) (hs' : SubL ρ' ρ) (tk : Takes X W) (hx : Passes (L2.CX X.prog X.w) X fun _ _ _ => False := by exact passL) (hj : 2 ≤ j := by decide) (hc : X.calm = true := by rfl) (hg : Gl X "Unseen" := by rfl)
    (hs : starEach (e :: []) X.env = (false, eval e X.env) :: starEach [] X.env := by rfl) (hpl : (backTo pos (starEach [] X.env)).any (·.1) = false := by rfl) :
    PSs X (.Raise (some (.Call (.Name "Unseen" p) [e] [] pos)) none pos2 :: sts) (tS W (cuA X.K) ρ (.ex ρ' k)) := s_leave (s_exw (s_raise U hr tk he hx hj hc hg hs hpl) hs') rfl
end
end Sd

namespace Sd
open PySem PySem.Spec L2
open PyProof.Rows (envOfC)
section
variable {X : Cx} {W : WX} {CU : Addr} {ρ ρ1 ρf : List Sl} {r : Res} {e e1 e2 : Expr} {pos : Pos} {sts : List Stmt} {k : Int} {n : Nat}
/-- return e, e may raise -/
theorem r_retF (he : PE X e (tX W CU ρ r)) (hn : n = ρ.length := by rfl) : PSs X (.Return (some e) pos :: sts) (tS W CU ρ (outF (anys n) r)) := by
  cases r with
  | ok d => exact r_retX he (sa hn)
  | ex k => exact s_leave (ps_imp (s_retX (ρf := anys n) he (sa hn)) fun D σ H ⟨B, M0, b, P, S, kk⟩ => ⟨B, M0, b, P, S, fun dd σ' H' S' hd => kk dd σ' H' (S'.sub (sa hn).sub) hd⟩) rfl
/-- what raises in a part raises -/
theorem x_subX {t2 : TE} (h1 : PE X e1 (tX W CU ρ (.ex k))) (h2 : PE X e2 t2) (hs : PlainIx e2 := by exact fun _ _ => rfl) : PE X (.Subscript e1 e2 pos) (tX W CU ρ (.ex k)) := pe_imp (pe_ix ix_seq h1 h2 hs) fun σ H Q ⟨B, M0, b, P, S, kk⟩ => ⟨B, M0, b, P, S, kk⟩
theorem s_setE {x : Str} {p' : Pos} (i : Nat) (nd : X.N.Nodup) (he : PE X e (tX W CU ρ (.ex k))) (hs' : SubL ρf ρ) (hi : X.N[i]? = some x := by rfl) (hx : Loc X.env.scope x := by exact Or.inl rfl) (hs : swapsWith e (some (.Name x p')) pos.line X.env = pure false := by rfl) (hf : X.fn x = true ∨ X.env.scope.names.lookup x = some .local := by first | exact .inl rfl | exact .inr rfl | assumption) : PSs X (.Assign [.Name x p'] e pos :: sts) (tS W CU ρ (.ex ρf k)) :=
  s_leave (ps_imp (s_setX (r := .ex k) i nd he hi hx hs hf) fun D σ H ⟨B, M0, b, P, S, kk⟩ => ⟨B, M0, b, P, S, fun dd σ' H' S' hd => kk dd σ' H' (S'.sub hs'.sub) hd⟩) rfl
end
section
variable {X : Cx} {W : WX} {CU : Addr} {ρ ρ1 : List Sl} {d : D} {e : Expr} {pos : Pos} {k : Int}
theorem s_expr (he : PE X e (tG ρ ρ1 d)) (hs : swapsWith e none pos.line X.env = pure false := by rfl) : PS X (.Expr e pos) (tS W CU ρ (.nx ρ1)) := ps_imp (ps_expr he hs) fun D σ H ⟨B, M0, b, P, S, kk⟩ => ⟨B, M0, b, P, S, fun v H2 S2 => kk σ H2 (S2.imp S.up fun _ _ q => q.2)⟩
theorem s_exprE (he : PE X e (tX W CU ρ (.ex k))) (hs : swapsWith e none pos.line X.env = pure false := by rfl) : PS X (.Expr e pos) (tS W CU ρ (.ex ρ k)) := ps_imp (ps_expr he hs) fun D σ H ⟨B, M0, b, P, S, kk⟩ => ⟨B, M0, b, P, S, fun dd H2 S2 h => kk dd σ H2 S2 h⟩
end
/-! ### try .. except Unseen -/
section
variable {X : Cx} {W : WX} {ρ : List Sl} {o : Out} {body suite : List Stmt} {b₀ : Stmt} {np pos pos' : Pos}
theorem s_tryO (U : FoU ⟨X.prog, X.w, X.K, X.mg, X.base⟩) (tk : Takes X W) (hb : ∀ (W' : WX) (pn : List (Addr × Obj)) (xe : Value → Shared → Prop), Takes (X.tr pn xe) W' → PassesOwn (model X.prog X.w) X.A X.env xe → PSs (X.tr pn xe) body (tS W' (cuA X.K) ρ o)) (ho : ∀ ρ1 k, o ≠ .ex ρ1 k)
    (hsu : ∀ (a : Addr) (oe : Obj) (pn : List (Addr × Obj)), PSs (X.suite a ((a, oe) :: pn)) (b₀ :: suite) (fun _ _ _ => False)) (hs : X.stack = X.env :: X.outer := by rfl) (hf : X.env.frame = some X.env.locals := by rfl) (hg : Gl X "Unseen" := by rfl) :
    PS X (.Try body [.ExceptHandler (some (.Name "Unseen" np)) none (b₀ :: suite) pos'] [] [] pos) (tS W (cuA X.K) ρ o) :=
  ps_imp (ps_try_only (c := .ref (cuA X.K)) (tb := fun W' => tS W' (cuA X.K) ρ o) (ts := fun _ _ _ => fun _ _ _ => False) hs hf ⟨hg, by decide, .inl U.g⟩ tk hb fun a oe cls d pn _ _ => hsu a oe pn) fun D σ H ⟨B, M0, b, P, S, kk⟩ => ⟨B, M0, b, P, S, by
    cases o with
    | ex ρ1 k => exact absurd rfl (ho ρ1 k)
    | nx _ => exact kk
    | rt _ _ => exact kk
    | bk _ => exact kk
    | ct _ => exact kk
    | rn _ _ => exact kk⟩
theorem s_tryE {ρ1 : List Sl} {k : Int} {o2 : Out} (U : FoU ⟨X.prog, X.w, X.K, X.mg, X.base⟩) (tk : Takes X W) (hb : ∀ (W' : WX) (pn : List (Addr × Obj)) (xe : Value → Shared → Prop), Takes (X.tr pn xe) W' → PassesOwn (model X.prog X.w) X.A X.env xe → PSs (X.tr pn xe) body (tS W' (cuA X.K) ρ (.ex ρ1 k)))
    (hsu : ∀ (a : Addr) (oe : Obj) (pn : List (Addr × Obj)), PSs (X.suite a ((a, oe) :: pn)) (b₀ :: suite) (tS (fun _ _ _ _ => False) (cuA X.K) ρ1 o2)) (ho : ∀ ρ3 k, o2 ≠ .ex ρ3 k) (hs : X.stack = X.env :: X.outer := by rfl) (hf : X.env.frame = some X.env.locals := by rfl) (hg : Gl X "Unseen" := by rfl) :
    PS X (.Try body [.ExceptHandler (some (.Name "Unseen" np)) none (b₀ :: suite) pos'] [] [] pos) (tS W (cuA X.K) ρ o2) :=
  ps_imp (ps_try_only (c := .ref (cuA X.K)) (tb := fun W' => tS W' (cuA X.K) ρ (.ex ρ1 k)) (ts := fun _ _ _ => tS (fun _ _ _ _ => False) (cuA X.K) ρ1 o2) hs hf ⟨hg, by decide, .inl U.g⟩ tk hb fun a oe cls d pn _ _ => hsu a oe pn) fun D σ H ⟨B, M0, b, P, S, kk⟩ => ⟨B, M0, b, P, S, fun dd σ' H' S' hd => ⟨true, U.x, fun _ a ha => ⟨B, M0, b, P, S', by
    cases o2 with
    | ex ρ3 k => exact absurd rfl (ho ρ3 k)
    | nx _ => exact kk
    | rt _ _ => exact kk
    | bk _ => exact kk
    | ct _ => exact kk
    | rn _ _ => exact kk⟩, fun z => by cases z⟩⟩
end
end Sd

namespace Sd
open PySem PySem.Spec L2
open PyProof.Rows (envOfC)

/-! ### drawing -/
def stI (ns : List Int) (j : Nat) : Int := (ns.take j).foldl (fun s c => (s * 31607 + c % 1000000007 + 77) % 4294967291) 43691
theorem stI_s {ns : List Int} {j : Nat} (h : j < ns.length) : stI ns (j + 1) = (stI ns j * 31607 + ns[j] % 1000000007 + 77) % 4294967291 := by
  unfold stI
  rw [List.take_succ_eq_append_getElem h, List.foldl_append]; rfl
abbrev BxI (s : Int) : Prop := 0 ≤ s ∧ s < 4294967291
theorem stI_bd (ns : List Int) : ∀ j, j ≤ ns.length → BxI (stI ns j)
  | 0, _ => by show BxI 43691; decide
  | j + 1, h => by rw [stI_s (by omega)]; exact ⟨Int.emod_nonneg _ (by decide), Int.emod_lt_of_pos _ (by decide)⟩
theorem bx_bd {s : Int} (h : BxI s) : Bd 33 s := (Bd.lit 33 (i := 4294967291) (by decide)).le h.1 (by omega)
/-! ### _law_start -/
def F_law_start (Y : Wo) (ds rs : List D) : Prop := ∃ ns : List Int, ds = [.arg Y.K ns] ∧ rs = [.int (stI ns ns.length)] ∧ ns.length ≤ 1000
theorem sc_law_start : FnScope ["_law_script", "_law_state", "_law_cell"] ["_law_script"] (defScope s_law_start) := ⟨rfl, rfl, rfl, by decide +kernel, rfl, by decide +kernel, by decide +kernel⟩
theorem fo_law_start {Y : Wo} (hh : Y.hd) : FoO Y 1 "_law_start" ["_law_script"] (F_law_start Y) := by
  have nd : (["_law_script", "_law_state", "_law_cell"] : List Str).Nodup := sc_law_start.nd
  refine mkO (k := 0) (N := ["_law_script", "_law_state", "_law_cell"]) hh 47 ds_law_start sc_law_start (fun _ _ _ _ _ _ us hl => match us, hl with | [_], _ => rfl) (by rintro ds rs ⟨ns, rfl, rfl, hl⟩; rfl) ?_
  rintro cdv A outer s H E ds rs hr ⟨ns, rfl, rfl, hl⟩
  refine ⟨[.val (.arg Y.K ns), .val (.int (stI ns ns.length)), .any], ?_⟩
  refine s_seq (s_set 1 nd x_int) ?_
  refine s_seq (s_forN 2 nd (i_arg (ns := ns) (x_v 0)) (fun j => [.val (.arg Y.K ns), .val (.int (stI ns j)), .any]) ⟨.inr rfl, .inr rfl, .inl rfl, trivial⟩ (fun j d hj => ?_)) ?_
  · obtain ⟨h, rfl⟩ := dInts_get hj
    have b := bx_bd (stI_bd ns j (by omega))
    refine s_seq (s_set 1 nd (x_mod (x_add (x_add (x_mul (x_v 1) x_int b (Bd.lit 15 (by decide)) (by decide)) (x_mod (x_toInt hh.b_int (x_v 2)) x_int (by decide))) x_int) x_int (by decide))) ?_
    exact s_nil ⟨.inr rfl, .inr (by rw [stI_s h]), .inl rfl, trivial⟩
  · rw [dInts_len]
    exact r_retN (n_lst (ds := [.int (stI ns ns.length)]) (a_cons (x_v 1) a_nil) (Nat.le_of_ble_eq_true rfl))
/-- the next state of the box -/
def nxI (s : Int) : Int := (s * 279470273 + 13) % 4294967291
theorem nxI_bd (s : Int) : BxI (nxI s) := ⟨Int.emod_nonneg _ (by decide), Int.emod_lt_of_pos _ (by decide)⟩
def drI (s m : Int) : Int := nxI s / 32 % m
/-! ### _law_draw -/
def F_law_draw (bs ds cs : List D) (r : D) : Prop := ∃ s m : Int, bs = [.int s] ∧ ds = [.int m] ∧ cs = [.int (nxI s)] ∧ r = .int (drI s m) ∧ BxI s ∧ 0 < m
theorem sc_law_draw : FnScope ["_law_box", "_law_many"] ["_law_box", "_law_many"] (defScope s_law_draw) := ⟨rfl, rfl, rfl, by decide +kernel, rfl, by decide +kernel, by decide +kernel⟩
theorem fo_law_draw {Y : Wo} (hh : Y.hd) : FoB Y 1 "_law_draw" ["_law_box", "_law_many"] F_law_draw := by
  have nd : (["_law_box", "_law_many"] : List Str).Nodup := sc_law_draw.nd
  refine mkB (k := 0) (N := ["_law_box", "_law_many"]) hh 48 ds_law_draw sc_law_draw (fun _ _ _ _ _ _ us hl => match us, hl with | [_, _], _ => rfl) (by rintro bs ds cs r ⟨s', m, rfl, rfl, rfl, rfl, hs, hm⟩; rfl) ?_
  rintro cdv A outer s H E bs ds cs r hr ⟨s', m, rfl, rfl, rfl, rfl, hs, hm⟩
  refine ⟨anys 1, ?_⟩
  refine s_seq (s_item (d := .int (nxI s')) (j := 0) 0 (x_mod (x_add (x_mul (x_ixM (n := 0) (d := .int s') (ds := [.int s']) (.inr rfl) x_int rfl) x_int (bx_bd hs) (Bd.lit 29 (by decide)) (by decide)) x_int) x_int (by decide)) x_int rfl (.inr rfl) rfl) ?_
  refine r_ret (x_mod (x_divS (x_ixM (n := 0) (d := .int (nxI s')) (ds := [.int (nxI s')]) (.inr rfl) x_int rfl) x_int (by decide) ((Bd.lit 6 (by decide)).mono (by decide))) (x_v 1) hm) ⟨.inr rfl, .inl rfl, trivial⟩
theorem x_bits {X : Cx} {ρ : List Sl} {e : Expr} {i : Int} {apos pos : Pos} (h : PE X e (tD ρ (.int i))) (hb : attributeBase e "bit_length" X.env (eval e X.env) = eval e X.env := by rfl) (hl : (apos.endLine == pos.line) = true := by rfl) : PE X (.Call (.Attribute e "bit_length" apos) [] [] pos) (tD ρ (.int (Builtin.Int.intBits i : Nat))) :=
  pe_imp (pe_bits h hb hl) fun σ H Q ⟨B, M0, b, P, S, k⟩ => ⟨B, M0, b, P, S, fun x H1 S1 => by
    obtain ⟨M, _, hx, _⟩ := S1.know
    have ex : x = .int i := hx
    exact ⟨i, ex, k _ H1 ((S1.imp S.up fun _ _ q => q.2).put fun _ => rfl)⟩⟩
theorem bits_le {n : Nat} {i : Int} (h : Bd n i) : Builtin.Int.intBits i ≤ n := by
  unfold Builtin.Int.intBits
  split
  · omega
  · rename_i h0
    have h0 : i.natAbs ≠ 0 := by simpa using h0
    have := (Nat.log2_lt h0).mpr h
    omega
def nxIt (s : Int) : Nat → Int
  | 0 => s
  | j + 1 => nxI (nxIt s j)
theorem nxIt_bd {s : Int} (h : BxI s) : ∀ j, BxI (nxIt s j)
  | 0 => h
  | j + 1 => nxI_bd _
def grN (s : Int) : Nat → Int
  | 0 => 0
  | j + 1 => grN s j * 1048576 + drI (nxIt s j) 1048576
theorem drI_bd (s : Int) {m : Int} (h : 0 < m) : 0 ≤ drI s m ∧ drI s m < m := ⟨Int.emod_nonneg _ (by omega), Int.emod_lt_of_pos _ h⟩
theorem grN_bd (s : Int) : ∀ j, 0 ≤ grN s j ∧ grN s j < 2 ^ (20 * j)
  | 0 => by show (0 : Int) ≤ 0 ∧ (0 : Int) < 2 ^ 0; decide
  | j + 1 => by
    obtain ⟨a, b⟩ := grN_bd s j
    have d := drI_bd (nxIt s j) (show (0 : Int) < 1048576 by decide)
    have e : (2 : Int) ^ (20 * (j + 1)) = 2 ^ (20 * j) * 1048576 := by rw [Nat.mul_add, Int.pow_add]; rfl
    show 0 ≤ grN s j * 1048576 + drI (nxIt s j) 1048576 ∧ grN s j * 1048576 + drI (nxIt s j) 1048576 < _
    rw [e]; omega
theorem grN_Bd {s : Int} {j : Nat} (h : j ≤ 100) : Bd 2000 (grN s j) := by
  obtain ⟨a, b⟩ := grN_bd s j
  have : (grN s j).natAbs < 2 ^ (20 * j) := by
    have e : ((2 ^ (20 * j) : Nat) : Int) = (2 : Int) ^ (20 * j) := by push_cast; rfl
    omega
  exact Bd.mono this (by omega)
def lapsI (m : Int) : Nat := Builtin.Int.intBits m / 20 + 2
def greatI (s m : Int) : Int := grN s (lapsI m) % m
/-! ### _law_great -/
def F_law_great (bs ds cs : List D) (r : D) : Prop := ∃ s m : Int, bs = [.int s] ∧ ds = [.int m] ∧ cs = [.int (nxIt s (lapsI m))] ∧ r = .int (greatI s m) ∧ BxI s ∧ 0 < m ∧ Bd 1700 m
theorem sc_law_great : FnScope ["_law_box", "_law_many", "_law_number", "_law_lap"] ["_law_box", "_law_many"] (defScope s_law_great) := ⟨rfl, rfl, rfl, by decide +kernel, rfl, by decide +kernel, by decide +kernel⟩
theorem fo_law_great {Y : Wo} (hh : Y.hd) : FoB Y 2 "_law_great" ["_law_box", "_law_many"] F_law_great := by
  have nd : (["_law_box", "_law_many", "_law_number", "_law_lap"] : List Str).Nodup := sc_law_great.nd
  refine mkB (k := 1) (N := ["_law_box", "_law_many", "_law_number", "_law_lap"]) hh 49 ds_law_great sc_law_great (fun _ _ _ _ _ _ us hl => match us, hl with | [_, _], _ => rfl) (by rintro bs ds cs r ⟨s', m, rfl, rfl, rfl, rfl, hs, hm, hB⟩; rfl) ?_
  rintro cdv A outer s H E bs ds cs r hr ⟨s', m, rfl, rfl, rfl, rfl, hs, hm, hB⟩
  have hb := bits_le hB
  refine ⟨anys 3, ?_⟩
  refine s_seq (s_set 2 nd x_int) ?_
  have el : ((Builtin.Int.intBits m : Nat) : Int) / 20 + 2 = (lapsI m : Int) := by unfold lapsI; omega
  have hl : lapsI m ≤ 90 := by unfold lapsI; omega
  refine s_seq (s_forN (ys := rngD 0 1 ((lapsI m : Int)).toNat) 3 nd (i_rng1 hh.b_range (x_is (x_add (x_divS (x_bits (x_v 1)) x_int (by decide) ((Bd.lit 5 (by decide)).mono (by decide))) x_int) (by rw [el])) (by omega) (by omega)) (fun j => [.box (.lst [.int (nxIt s' j)]), .val (.int m), .val (.int (grN s' j)), .any]) ⟨.inr rfl, .inr rfl, .inr rfl, .inl rfl, trivial⟩ (fun j d hj => ?_)) ?_
  · obtain ⟨h, rfl⟩ := rngD_get hj
    refine s_seq (s_set (d := .int (grN s' (j + 1))) 2 nd (x_add (x_mul (x_v 2) x_int (grN_Bd (by omega)) (Bd.lit 21 (by decide)) (by decide)) (x_fB 0 (fo_law_draw hh) hr (a_cons x_int a_nil) rfl (.inr rfl) ⟨nxIt s' j, 1048576, rfl, rfl, rfl, rfl, nxIt_bd hs j, by decide⟩))) ?_
    exact s_nil ⟨.inr rfl, .inr rfl, .inr rfl, .inl rfl, trivial⟩
  · rw [rngD_len, Int.toNat_natCast]
    refine r_ret (x_mod (x_toInt hh.b_int (x_v 2)) (x_v 1) hm) ⟨.inr rfl, .inl rfl, .inl rfl, .inl rfl, trivial⟩
end Sd

namespace Sd
open PySem PySem.Spec L2
open PyProof.Rows (envOfC)

/-! ### is_integer -/
def F_is_integer (ds : List D) (r : Res) : Prop := ∃ i : Int, ds = [.int i] ∧ r = .ok (.bl true)
theorem sc_is_integer : FnScope ["thing"] ["thing"] (defScope s_is_integer) := ⟨rfl, rfl, rfl, by decide +kernel, rfl, by decide +kernel, by decide +kernel⟩
theorem fo_is_integer {Y : Wo} (hh : Y.hd) : Fo Y 1 "is_integer" ["thing"] F_is_integer := by
  have nd : (["thing"] : List Str).Nodup := sc_is_integer.nd
  refine mkF (k := 0) (N := ["thing"]) hh 0 ds_is_integer sc_is_integer (fun _ _ _ _ _ _ us hl => match us, hl with | [_], _ => rfl) (by rintro ds r ⟨i, rfl, rfl⟩; rfl) ?_
  rintro cdv A outer s H E ds r hr ⟨i, rfl, rfl⟩
  exact r_ret (x_andT (x_isi (t := "int") (T := "int") rfl (by decide +kernel) hh.b_isinstance hh.b_int (by decide +kernel) (x_v 0)) (x_one (x_not (x_isi (t := "int") (T := "bool") (c := false) rfl (by decide +kernel) hh.b_isinstance hh.b_bool (by decide +kernel) (x_v 0))))) sa
/-! ### is_number -/
def F_is_number (ds : List D) (r : Res) : Prop := ∃ i : Int, ds = [.int i] ∧ r = .ok (.bl (decide (0 ≤ i)))
theorem sc_is_number : FnScope ["thing"] ["thing"] (defScope s_is_number) := ⟨rfl, rfl, rfl, by decide +kernel, rfl, by decide +kernel, by decide +kernel⟩
theorem fo_is_number {Y : Wo} (hh : Y.hd) : Fo Y 2 "is_number" ["thing"] F_is_number := by
  have nd : (["thing"] : List Str).Nodup := sc_is_number.nd
  refine mkF (k := 1) (N := ["thing"]) hh 1 ds_is_number sc_is_number (fun _ _ _ _ _ _ us hl => match us, hl with | [_], _ => rfl) (by rintro ds r ⟨i, rfl, rfl⟩; rfl) ?_
  rintro cdv A outer s H E ds r hr ⟨i, rfl, rfl⟩
  exact r_ret (x_andT (x_f (fo_is_integer hh) hr (a_cons (x_v 0) a_nil) ⟨i, rfl, rfl⟩) (x_one (x_ge (x_v 0) x_int))) sa
/-! ### is_dials -/
def F_is_dials (ds : List D) (r : Res) : Prop := ∃ ns : List Int, ds = [.tup (dInts ns)] ∧ r = .ok (.bl true) ∧ ns ≠ [] ∧ (∀ n ∈ ns, 2 ≤ n) ∧ ns.length ≤ 1000
theorem sc_is_dials : FnScope ["thing", "size"] ["thing"] (defScope s_is_dials) := ⟨rfl, rfl, rfl, by decide +kernel, rfl, by decide +kernel, by decide +kernel⟩
theorem fo_is_dials {Y : Wo} (hh : Y.hd) : Fo Y 2 "is_dials" ["thing"] F_is_dials := by
  have nd : (["thing", "size"] : List Str).Nodup := sc_is_dials.nd
  refine mkF (k := 1) (N := ["thing", "size"]) hh 2 ds_is_dials sc_is_dials (fun _ _ _ _ _ _ us hl => match us, hl with | [_], _ => rfl) (by rintro ds r ⟨ns, rfl, rfl, h1, h2, h3⟩; rfl) ?_
  rintro cdv A outer s H E ds r hr ⟨ns, rfl, rfl, h1, h2, h3⟩
  refine r_skip (t_is (t_W (w_or (c := false) (t_not (t_val (c := true) (x_isi (t := "tuple") (T := "tuple") rfl (by decide +kernel) hh.b_isinstance hh.b_tuple (by decide +kernel) (x_v 0)))) fun _ => w_or1 (t_eqT (ms := []) hr (x_v 0) (x_tup (ds := []) a_nil (by decide))))) (by rw [decide_eq_false h1]; rfl)) ?_
  refine r_ret (x_trues hh.b_all (n := (dInts ns).length) (x_lcN (ys := dInts ns) 1 (fun _ => .bl true) nd (i_tup (x_v 0)) (by rw [dInts_len]; omega) ?_)) sa
  intro s H C cl fp i d hi
  obtain ⟨hl, rfl⟩ := dInts_get hi
  refine x_is (x_andT (x_f (fo_is_integer hh) hr (a_cons (x_v 1) a_nil) ⟨_, rfl, rfl⟩) (x_one (x_ge (x_v 1) x_int))) ?_
  rw [decide_eq_true (h2 _ (List.getElem_mem hl))]
/-! ### is_row -/
def F_is_row (ds : List D) (r : Res) : Prop := ∃ ss vs : List Int, ds = [.tup (dInts ss), .tup (dInts vs)] ∧ r = .ok (.bl true) ∧ vs.length = ss.length ∧ ss.length ≤ 1000 ∧ (∀ (i : Nat) (h1 : i < ss.length) (h2 : i < vs.length), 0 ≤ vs[i] ∧ vs[i] < ss[i])
theorem sc_is_row : FnScope ["dials", "thing", "shown_value", "size"] ["dials", "thing"] (defScope s_is_row) := ⟨rfl, rfl, rfl, by decide +kernel, rfl, by decide +kernel, by decide +kernel⟩
theorem fo_is_row {Y : Wo} (hh : Y.hd) : Fo Y 3 "is_row" ["dials", "thing"] F_is_row := by
  have nd : (["dials", "thing", "shown_value", "size"] : List Str).Nodup := sc_is_row.nd
  refine mkF (k := 2) (N := ["dials", "thing", "shown_value", "size"]) hh 3 ds_is_row sc_is_row (fun _ _ _ _ _ _ us hl => match us, hl with | [_, _], _ => rfl) (by rintro ds r ⟨ss, vs, rfl, rfl, h1, h2, h3⟩; rfl) ?_
  rintro cdv A outer s H E ds r hr ⟨ss, vs, rfl, rfl, h1, h2, h3⟩
  refine r_skip (t_is (t_W (w_or (c := false) (t_not (t_val (c := true) (x_isi (t := "tuple") (T := "tuple") rfl (by decide +kernel) hh.b_isinstance hh.b_tuple (by decide +kernel) (x_v 1)))) fun _ => w_or1 (t_ne (x_lenI hh.b_len (x_v 1)) (x_lenI hh.b_len (x_v 0)) rfl))) (by rw [h1]; simp)) ?_
  refine r_ret (x_trues hh.b_all (n := (zip2D (dInts vs) (dInts ss)).length) (x_lc2 (ys := zip2D (dInts vs) (dInts ss)) 2 3 (fun _ => .bl true) nd (i_zip hh.b_zip (x_v 1) (x_v 0)) (by rw [zip2I_len h1]; omega) zip2D_two ?_)) sa
  intro s H C cl fp i a b hi
  obtain ⟨l1, l2, rfl, rfl⟩ := zip2I_get hi
  have := h3 i l2 l1
  refine x_is (x_andT (x_is (x_f (fo_is_number hh) hr (a_cons (x_v 2) a_nil) ⟨_, rfl, rfl⟩) (by rw [decide_eq_true this.1])) (x_one (x_lt (x_v 2) (x_v 3)))) ?_
  rw [decide_eq_true this.2]
/-! ### is_tour -/
def F_is_tour (ds : List D) (r : Res) : Prop := ∃ ss vs : List Int, ds = [.tup (dInts ss), .tup (dInts vs)] ∧ r = .ok (.bl true) ∧ vs.length ≤ 1000 ∧ (∀ v ∈ vs, 0 ≤ v ∧ v < ss.length)
theorem sc_is_tour : FnScope ["dials", "thing", "dial"] ["dials", "thing"] (defScope s_is_tour) := ⟨rfl, rfl, rfl, by decide +kernel, rfl, by decide +kernel, by decide +kernel⟩
theorem fo_is_tour {Y : Wo} (hh : Y.hd) : Fo Y 3 "is_tour" ["dials", "thing"] F_is_tour := by
  have nd : (["dials", "thing", "dial"] : List Str).Nodup := sc_is_tour.nd
  refine mkF (k := 2) (N := ["dials", "thing", "dial"]) hh 4 ds_is_tour sc_is_tour (fun _ _ _ _ _ _ us hl => match us, hl with | [_, _], _ => rfl) (by rintro ds r ⟨ss, vs, rfl, rfl, h1, h2⟩; rfl) ?_
  rintro cdv A outer s H E ds r hr ⟨ss, vs, rfl, rfl, h1, h2⟩
  refine r_skip (t_not (t_val (c := true) (x_isi (t := "tuple") (T := "tuple") rfl (by decide +kernel) hh.b_isinstance hh.b_tuple (by decide +kernel) (x_v 1)))) ?_
  refine r_ret (x_trues hh.b_all (n := (dInts vs).length) (x_lcN (ys := dInts vs) 2 (fun _ => .bl true) nd (i_tup (x_v 1)) (by rw [dInts_len]; omega) ?_)) sa
  intro s H C cl fp i d hi
  obtain ⟨hl, rfl⟩ := dInts_get hi
  have := h2 _ (List.getElem_mem hl)
  refine x_is (x_andT (x_is (x_f (fo_is_number hh) hr (a_cons (x_v 2) a_nil) ⟨_, rfl, rfl⟩) (by rw [decide_eq_true this.1])) (x_one (x_lt (x_v 2) (x_lenI hh.b_len (x_v 0))))) ?_
  rw [decide_eq_true this.2]
/-- the dials of a tour, one by one -/
def picks (ss vs : List Int) : List Int := vs.map fun v => ss.getD v.toNat 0
theorem picks_len {ss vs : List Int} : (picks ss vs).length = vs.length := List.length_map ..
theorem picks_D {ss vs : List Int} : (List.range (dInts vs).length).map (fun i => D.int ((picks ss vs).getD i 0)) = dInts (picks ss vs) := by
  apply List.ext_getElem
  · simp [picks_len]
  · intro i h1 h2
    have hl : i < (picks ss vs).length := by simpa using h2
    simp only [List.getElem_map, List.getElem_range]
    rw [List.getD_eq_getElem?_getD, List.getElem?_eq_getElem hl]; rfl
/-! ### is_view -/
def F_is_view (ds : List D) (r : Res) : Prop := ∃ ss ts vs : List Int, ds = [.tup (dInts ss), .tup (dInts ts), .tup (dInts vs)] ∧ r = .ok (.bl true) ∧ ts.length ≤ 1000 ∧ (∀ v ∈ ts, 0 ≤ v ∧ v < ss.length) ∧ vs.length = ts.length ∧ (∀ (i : Nat) (h1 : i < (picks ss ts).length) (h2 : i < vs.length), 0 ≤ vs[i] ∧ vs[i] < (picks ss ts)[i])
theorem sc_is_view : FnScope ["dials", "tour", "thing", "dial"] ["dials", "tour", "thing"] (defScope s_is_view) := ⟨rfl, rfl, rfl, by decide +kernel, rfl, by decide +kernel, by decide +kernel⟩
theorem fo_is_view {Y : Wo} (hh : Y.hd) : Fo Y 4 "is_view" ["dials", "tour", "thing"] F_is_view := by
  have nd : (["dials", "tour", "thing", "dial"] : List Str).Nodup := sc_is_view.nd
  refine mkF (k := 3) (N := ["dials", "tour", "thing", "dial"]) hh 5 ds_is_view sc_is_view (fun _ _ _ _ _ _ us hl => match us, hl with | [_, _, _], _ => rfl) (by rintro ds r ⟨ss, ts, vs, rfl, rfl, h1, h2, h3, h4⟩; rfl) ?_
  rintro cdv A outer s H E ds r hr ⟨ss, ts, vs, rfl, rfl, h1, h2, h3, h4⟩
  refine r_skip (t_not (t_val (c := true) (x_f (fo_is_tour hh) hr (a_cons (x_v 0) (a_cons (x_v 1) a_nil)) ⟨ss, ts, rfl, rfl, h1, h2⟩))) ?_
  refine r_ret (x_f (fo_is_row hh) hr (a_cons (x_tupL hh.b_tuple (x_is (x_lcN (ys := dInts ts) 3 (fun i => .int ((picks ss ts).getD i 0)) nd (i_tup (x_v 1)) (by rw [dInts_len]; omega) ?_) (by rw [picks_D]))) (a_cons (x_v 2) a_nil)) ⟨_, vs, rfl, rfl, by rw [h3, picks_len], by rw [picks_len]; omega, h4⟩) sa
  intro s H C cl fp i d hi
  obtain ⟨hl, rfl⟩ := dInts_get hi
  have := h2 _ (List.getElem_mem hl)
  obtain ⟨n, hn⟩ : ∃ n : Nat, ts[i] = (n : Int) := ⟨ts[i].toNat, by omega⟩
  have hn' : n < ss.length := by omega
  have e : (picks ss ts).getD i 0 = ss[n] := by
    unfold picks
    rw [List.getD_eq_getElem?_getD, List.getElem?_map, List.getElem?_eq_getElem hl, hn]
    show ss.getD n 0 = _
    rw [List.getD_eq_getElem?_getD, List.getElem?_eq_getElem hn']; rfl
  rw [e]
  refine x_ix (d1 := .tup (dInts ss)) (ds := dInts ss) (x_v 0) (x_v 3) rfl ?_
  rw [hn]; exact atI_int hn'
end Sd

namespace Sd
open PySem PySem.Spec L2
open PyProof.Rows (envOfC)
theorem i_is {X : Cx} {ρ : List Sl} {tg it : Expr} {a b : List D} (h : PI X tg it (tI ρ a)) (e : a = b) : PI X tg it (tI ρ b) := e ▸ h
theorem dInts_rev (ns : List Int) : (dInts ns).reverse = dInts ns.reverse := by unfold dInts; rw [List.map_reverse]
theorem dInts_app (ns : List Int) (n : Int) : dInts ns ++ [D.int n] = dInts (ns ++ [n]) := by unfold dInts; rw [List.map_append]; rfl
theorem dInts_app2 (ns ms : List Int) : dInts ns ++ dInts ms = dInts (ns ++ ms) := by unfold dInts; rw [List.map_append]
theorem ifT {α : Type} {p : Prop} [Decidable p] {a b : α} (h : decide p = true) : (if p then a else b) = a := if_pos (of_decide_eq_true h)
theorem ifF {α : Type} {p : Prop} [Decidable p] {a b : α} (h : decide p = false) : (if p then a else b) = b := if_neg (of_decide_eq_false h)

/-! ### d_is_below -/
def F_d_is_below (ds : List D) (r : Res) : Prop := ∃ i j : Int, ds = [.int i, .int j] ∧ r = .ok (.bl true) ∧ 0 ≤ i ∧ i < j
theorem sc_d_is_below : FnScope ["thing", "limit"] ["thing", "limit"] (defScope s_d_is_below) := ⟨rfl, rfl, rfl, by decide +kernel, rfl, by decide +kernel, by decide +kernel⟩
theorem fo_d_is_below {Y : Wo} (hh : Y.hd) : Fo Y 3 "d_is_below" ["thing", "limit"] F_d_is_below := by
  have nd : (["thing", "limit"] : List Str).Nodup := sc_d_is_below.nd
  refine mkF (k := 2) (N := ["thing", "limit"]) hh 10 ds_d_is_below sc_d_is_below (fun _ _ _ _ _ _ us hl => match us, hl with | [_, _], _ => rfl) (by rintro ds r ⟨i, j, rfl, rfl, h1, h2⟩; rfl) ?_
  rintro cdv A outer s H E ds r hr ⟨i, j, rfl, rfl, h1, h2⟩
  refine r_ret (x_is (x_andT (x_is (x_f (fo_is_number hh) hr (a_cons (x_v 0) a_nil) ⟨_, rfl, rfl⟩) (by rw [decide_eq_true h1])) (x_one (x_lt (x_v 0) (x_v 1)))) (by rw [decide_eq_true h2])) sa
/-! ### d_product -/
def F_d_product (ds : List D) (r : Res) : Prop := ∃ ns : List Int, ds = [.tup (dInts ns)] ∧ r = .ok (.int (pr ns)) ∧ SzB ns
theorem sc_d_product : FnScope ["sizes", "result", "size"] ["sizes"] (defScope s_d_product) := ⟨rfl, rfl, rfl, by decide +kernel, rfl, by decide +kernel, by decide +kernel⟩
theorem fo_d_product {Y : Wo} (hh : Y.hd) : Fo Y 1 "d_product" ["sizes"] F_d_product := by
  have nd : (["sizes", "result", "size"] : List Str).Nodup := sc_d_product.nd
  refine mkF (k := 0) (N := ["sizes", "result", "size"]) hh 11 ds_d_product sc_d_product (fun _ _ _ _ _ _ us hl => match us, hl with | [_], _ => rfl) (by rintro ds r ⟨ns, rfl, rfl, hs⟩; rfl) ?_
  rintro cdv A outer s H E ds r hr ⟨ns, rfl, rfl, hs⟩
  refine s_seq (s_set 1 nd x_int) ?_
  refine s_seq (s_forN 2 nd (i_tup (x_v 0)) (fun i => [.val (.tup (dInts ns)), .val (.int (pr (ns.take i))), .any]) ⟨.inr rfl, .inr rfl, .inl rfl, trivial⟩ (fun i d hi => ?_)) ?_
  · obtain ⟨hl, rfl⟩ := dInts_get hi
    refine s_seq (s_augM 1 nd (x_v 2) (hs.take i).sm (hs.getSm hl) (by decide)) ?_
    exact s_nil ⟨.inr rfl, .inr (by rw [pr_take hl]), .inl rfl, trivial⟩
  · refine s_cast (ρ' := [.val (.tup (dInts ns)), .val (.int (pr ns)), .any]) (by rw [dInts_len, List.take_length]) ?_
    exact r_ret (x_v 1) sa
/-! ### d_counted -/
def F_d_counted (ds : List D) (r : Res) : Prop := ∃ (ss : List Int) (c : Int), ds = [.tup (dInts ss), .int c] ∧ r = .ok (.tup (dInts (counted ss c))) ∧ SzB ss
theorem sc_d_counted : FnScope ["sizes", "count", "values", "rest", "size", "value"] ["sizes", "count"] (defScope s_d_counted) := ⟨rfl, rfl, rfl, by decide +kernel, rfl, by decide +kernel, by decide +kernel⟩
theorem fo_d_counted {Y : Wo} (hh : Y.hd) : Fo Y 1 "d_counted" ["sizes", "count"] F_d_counted := by
  have nd : (["sizes", "count", "values", "rest", "size", "value"] : List Str).Nodup := sc_d_counted.nd
  refine mkF (k := 0) (N := ["sizes", "count", "values", "rest", "size", "value"]) hh 12 ds_d_counted sc_d_counted (fun _ _ _ _ _ _ us hl => match us, hl with | [_, _], _ => rfl) (by rintro ds r ⟨ss, c, rfl, rfl, hs⟩; rfl) ?_
  rintro cdv A outer s H E ds r hr ⟨ss, c, rfl, rfl, hs⟩
  have hr2 : ∀ i (h : i < ss.reverse.length), 2 ≤ ss.reverse[i] ∧ Sm ss.reverse[i] := fun i h => by
    have hm : ss.reverse[i] ∈ ss := List.mem_reverse.mp (List.getElem_mem h)
    exact ⟨hs.two _ hm, (hs.bits _ hm).mono (by decide)⟩
  have h40 := hs.len
  refine s_seq (s_setN 2 nd (n_lst (ds := []) a_nil (by decide))) ?_
  refine s_seq (s_set 3 nd (x_v 1)) ?_
  refine s_seq (s_forN 4 nd (i_is (i_rev hh.b_reversed (x_v 0)) (dInts_rev ss)) (fun i => [.val (.tup (dInts ss)), .val (.int c), .own (.lst (dInts ((cntR ss.reverse c).take i))), .val (.int (restAt ss.reverse c i)), .any, .any]) ⟨.inr rfl, .inr rfl, .inr rfl, .inr rfl, .inl rfl, .inl rfl, trivial⟩ (fun i d hi => ?_)) ?_
  · obtain ⟨hl, rfl⟩ := dInts_get hi
    obtain ⟨h2, hS⟩ := hr2 i hl
    have hll : i < ss.length := by simpa using hl
    refine s_seq (s_set 5 nd (x_mod (x_v 3) (x_v 4) (by omega))) ?_
    refine s_seq (s_set 3 nd (x_divS (x_v 3) (x_v 4) (by omega) hS)) ?_
    refine s_seq (s_app (d := .int (dig ss.reverse[i] (restAt ss.reverse c i))) 2 (x_if (t_eq (x_mod (x_v 3) x_int (by decide)) x_int rfl) (fun hc => x_is (x_v 5) ?_) (fun hc => x_is (x_sub (x_sub (x_v 4) x_int) (x_v 5)) ?_)) rfl (.inl rfl) ?_) ?_
    · unfold dig; rw [ifT hc]
    · unfold dig; rw [ifF hc]
    · rw [dInts_len, List.length_take]; omega
    · exact s_nil ⟨.inr rfl, .inr rfl, .inr (by rw [cntR_take hl, ← dInts_app]; rfl), .inr (by rw [restAt_s hl]), .inl rfl, .inl rfl, trivial⟩
  · refine s_sub (ρ' := [.val (.tup (dInts ss)), .val (.int c), .own (.lst (dInts (cntR ss.reverse c))), .any, .any, .any]) ⟨.inr rfl, .inr rfl, .inr (by rw [dInts_len, ← cntR_len (c := c), List.take_length]), .inl rfl, .inl rfl, .inl rfl, trivial⟩ ?_
    exact r_ret (x_is (x_tupRevM rfl hh.b_tuple hh.b_reversed (n := 2) (.inl rfl)) (by rw [dInts_rev]; rfl)) sa
/-! ### d_count_of -/
def F_d_count_of (ds : List D) (r : Res) : Prop := ∃ ss vs : List Int, ds = [.tup (dInts ss), .tup (dInts vs)] ∧ r = .ok (.int (cof ss vs)) ∧ SzB ss ∧ RowOk ss vs
theorem sc_d_count_of : FnScope ["sizes", "row", "count", "size", "value", "digit"] ["sizes", "row"] (defScope s_d_count_of) := ⟨rfl, rfl, rfl, by decide +kernel, rfl, by decide +kernel, by decide +kernel⟩
theorem fo_d_count_of {Y : Wo} (hh : Y.hd) : Fo Y 1 "d_count_of" ["sizes", "row"] F_d_count_of := by
  have nd : (["sizes", "row", "count", "size", "value", "digit"] : List Str).Nodup := sc_d_count_of.nd
  refine mkF (k := 0) (N := ["sizes", "row", "count", "size", "value", "digit"]) hh 13 ds_d_count_of sc_d_count_of (fun _ _ _ _ _ _ us hl => match us, hl with | [_, _], _ => rfl) (by rintro ds r ⟨ss, vs, rfl, rfl, hs, hv⟩; rfl) ?_
  rintro cdv A outer s H E ds r hr ⟨ss, vs, rfl, rfl, hs, hv⟩
  refine s_seq (s_set 2 nd x_int) ?_
  refine s_seq (s_for2 3 4 nd (i_zip hh.b_zip (x_v 0) (x_v 1)) (fun i => [.val (.tup (dInts ss)), .val (.tup (dInts vs)), .val (.int (cofAt ss vs i)), .any, .any, .any]) ⟨.inr rfl, .inr rfl, .inr rfl, .inl rfl, .inl rfl, .inl rfl, trivial⟩ zip2D_two (fun i a b hi => ?_)) ?_
  · obtain ⟨l1, l2, rfl, rfl⟩ := zip2I_get hi
    have hb := cofAt_lt hv hs.two i (by omega)
    refine s_seq (s_set (d := .int (if cofAt ss vs i % 2 = 0 then vs[i] else ss[i] - 1 - vs[i])) 5 nd (x_if (t_eq (x_mod (x_v 2) x_int (by decide)) x_int rfl) (fun hc => x_is (x_v 4) ?_) (fun hc => x_is (x_sub (x_sub (x_v 3) x_int) (x_v 4)) ?_))) ?_
    · rw [ifT hc]
    · rw [ifF hc]
    refine s_seq (s_set 2 nd (x_add (x_mulS (x_v 2) (x_v 3) ((hs.take i).sm.le hb.1 (by omega)) (hs.getSm l1)) (x_v 5))) ?_
    exact s_nil ⟨.inr rfl, .inr rfl, .inr (by rw [cofAt_s l1 l2]; rfl), .inl rfl, .inl rfl, .inl rfl, trivial⟩
  · refine s_cast (ρ' := [.val (.tup (dInts ss)), .val (.tup (dInts vs)), .val (.int (cof ss vs)), .any, .any, .any]) (by rw [zip2I_len hv.1.symm]; rfl) ?_
    exact r_ret (x_v 2) sa
/-! ### d_mesh_rights -/
def F_d_mesh_rights (ds : List D) (r : Res) : Prop := ∃ (m : Msh) (k : Int), ds = [m.D, .int k] ∧ r = .ok (.int (m.g k)) ∧ MOk m ∧ 0 ≤ k ∧ k ≤ m.L
theorem sc_d_mesh_rights : FnScope ["halves", "left", "left_many", "right_many", "last", "first"] ["halves", "left"] (defScope s_d_mesh_rights) := ⟨rfl, rfl, rfl, by decide +kernel, rfl, by decide +kernel, by decide +kernel⟩
theorem fo_d_mesh_rights {Y : Wo} (hh : Y.hd) : Fo Y 1 "d_mesh_rights" ["halves", "left"] F_d_mesh_rights := by
  have nd : (["halves", "left", "left_many", "right_many", "last", "first"] : List Str).Nodup := sc_d_mesh_rights.nd
  refine mkF (k := 0) (N := ["halves", "left", "left_many", "right_many", "last", "first"]) hh 15 ds_d_mesh_rights sc_d_mesh_rights (fun _ _ _ _ _ _ us hl => match us, hl with | [_, _], _ => rfl) (by rintro ds r ⟨m, k, rfl, rfl, hm, h0, h1⟩; rfl) ?_
  rintro cdv A outer s H E ds r hr ⟨m, k, rfl, rfl, hm, h0, h1⟩
  have hl0 := hm.L0
  refine r_when (t_eq (x_v 1) x_int rfl) (fun hc => ⟨r_ret (x_is x_int ?_) sa, rfl⟩) (fun hc => ?_)
  · unfold Msh.g; rw [ifT hc]
  refine s_seq (s_asg4 (a := .int m.L) (b := .int m.R) (c := .int m.a) (d := .int m.b) 2 3 4 5 nd (x_is (x_slT (ds := [.tup (dInts m.l), .tup (dInts m.r), .int m.L, .int m.R, .int m.a, .int m.b]) (l := some 2) (h := none) (x_v 0) (o_at x_int) o_no) rfl)) ?_
  have ha := hm.a2
  refine r_ret (x_is (x_max hh.b_max rfl (x_divS (x_sub (x_v 1) x_int) (x_v 4) (by omega) hm.as) (x_sub (x_sub (x_v 3) x_int) (x_mulS (x_v 5) (x_sub (x_v 2) (x_v 1)) hm.bs (hm.LS.le (by omega) (by omega))))) ?_) sa
  unfold Msh.g; rw [ifF hc]
theorem Msh.g_mono {m : Msh} (h : MOk m) {i j : Int} (h0 : 0 ≤ i) (hij : i ≤ j) : m.g i ≤ m.g j := by
  have ha := h.a2
  have hb := h.b2
  unfold Msh.g
  by_cases e : i = 0
  · subst e
    rw [if_pos rfl]
    by_cases e2 : j = 0
    · rw [if_pos e2]; exact Int.le_refl _
    · rw [if_neg e2]
      have : 0 ≤ (j - 1) / m.a := Int.ediv_nonneg (by omega) (by omega)
      omega
  · rw [if_neg e, if_neg (by omega)]
    have h1 : (i - 1) / m.a ≤ (j - 1) / m.a := Int.ediv_le_ediv (by omega) (by omega)
    have h2 : m.b * (m.L - j) ≤ m.b * (m.L - i) := Int.mul_le_mul_of_nonneg_left (by omega) (by omega)
    omega
/-! ### d_mesh_counts -/
def F_d_mesh_counts (ds : List D) (r : Res) : Prop := ∃ (m : Msh) (st k : Int), ds = [m.D, .int st] ∧ r = .ok (.tup [.int k, .int (st - k)]) ∧ MOk m ∧ 0 ≤ st ∧ m.Left st k
theorem sc_d_mesh_counts : FnScope ["halves", "stage", "low", "high", "middle"] ["halves", "stage"] (defScope s_d_mesh_counts) := ⟨rfl, rfl, rfl, by decide +kernel, rfl, by decide +kernel, by decide +kernel⟩
theorem fo_d_mesh_counts {Y : Wo} (hh : Y.hd) : Fo Y 2 "d_mesh_counts" ["halves", "stage"] F_d_mesh_counts := by
  have nd : (["halves", "stage", "low", "high", "middle"] : List Str).Nodup := sc_d_mesh_counts.nd
  refine mkF (k := 1) (N := ["halves", "stage", "low", "high", "middle"]) hh 16 ds_d_mesh_counts sc_d_mesh_counts (fun _ _ _ _ _ _ us hl => match us, hl with | [_, _], _ => rfl) (by rintro ds r ⟨m, st, k, rfl, rfl, hm, h0, hk⟩; rfl) ?_
  rintro cdv A outer s H E ds r hr ⟨m, st, k, rfl, rfl, hm, h0, hk⟩
  have hl0 := hm.L0
  have mono : ∀ i j, 0 ≤ i → i ≤ j → m.g i ≤ m.g j := fun i j a b => Msh.g_mono hm a b
  let p : Int → Bool := fun i => decide (i < 0) || decide (i + m.g i ≤ st)
  have hp : ∀ i, 0 ≤ i → p i = decide (i + m.g i ≤ st) := fun i hi => by
    show (decide (i < 0) || decide (i + m.g i ≤ st)) = _
    rw [decide_eq_false (by omega)]; rfl
  obtain ⟨n, c1, c2, c3, c4, c5⟩ := bs_ex p (fun i j hij hj => by
    by_cases hi : i < 0
    · show (decide (i < 0) || _) = true
      rw [decide_eq_true hi]; rfl
    · rw [hp j (by omega)] at hj
      rw [hp i (by omega)]
      have := of_decide_eq_true hj
      have := mono i j (by omega) hij
      exact decide_eq_true (by omega)) _ 0 (m.L - 1) rfl (by omega) (by omega) (by rw [hp 0 (by omega)]; exact decide_eq_true (by show 0 + m.g 0 ≤ st; unfold Msh.g; rw [if_pos rfl]; omega))
  have hL : (bsI p (0, m.L - 1) n).1 = k := by
    obtain ⟨k0, k1, k2, k3⟩ := hk
    have d := c3 n (by omega)
    rw [hp _ d.1] at c4
    have c4' := of_decide_eq_true c4
    by_cases e : (bsI p (0, m.L - 1) n).1 < k
    · have := c5 k e k1
      rw [hp k k0] at this
      have := of_decide_eq_false this
      omega
    · by_cases e2 : k < (bsI p (0, m.L - 1) n).1
      · have := k3 _ e2 (by omega)
        omega
      · omega
  refine s_seq (s_set 2 nd x_int) ?_
  refine s_seq (s_set 3 nd (x_sub (x_ix (ds := [.tup (dInts m.l), .tup (dInts m.r), .int m.L, .int m.R, .int m.a, .int m.b]) (x_v 0) x_int rfl rfl) x_int)) ?_
  refine s_seq (s_while (passes_of rfl) (fun i => [.val m.D, .val (.int st), .val (.int (bsI p (0, m.L - 1) i).1), .val (.int (bsI p (0, m.L - 1) i).2), .any]) n ⟨.inr rfl, .inr rfl, .inr rfl, .inr rfl, .inl rfl, trivial⟩ (fun i hi => t_is (t_lt (x_v 2) (x_v 3)) (c1 i hi)) (fun i hi => ?_)) ?_
  · have hc := c1 i (by omega)
    rw [decide_eq_true hi] at hc
    have hlt := of_decide_eq_true hc
    obtain ⟨d0, d1, d2, d3⟩ := c3 i (by omega)
    refine s_seq (s_set 4 nd (x_divS (x_add (x_add (x_v 2) (x_v 3)) x_int) x_int (by decide) ((Bd.lit 4).mono (by decide)))) ?_
    have hq := hp (((bsI p (0, m.L - 1) i).1 + (bsI p (0, m.L - 1) i).2 + 1) / 2) (by omega)
    refine r_if (ρ1 := [.val m.D, .val (.int st), .val (.int (bsI p (0, m.L - 1) (i + 1)).1), .val (.int (bsI p (0, m.L - 1) (i + 1)).2), .any]) (t_is (t_le (x_add (x_v 4) (x_f (fo_d_mesh_rights hh) hr (a_cons (x_v 0) (a_cons (x_v 4) a_nil)) ⟨m, _, rfl, rfl, hm, by omega, by omega⟩)) (x_v 1)) hq.symm) (fun h1 => ?_) (fun h1 => ?_) (s_nil (SubL.refl _))
    · refine s_seq (s_set 2 nd (x_v 4)) (s_nil ⟨.inr rfl, .inr rfl, .inr ?_, .inr ?_, .inl rfl, trivial⟩)
      · show Sl.val (D.int (bsS p (bsI p (0, m.L - 1) i)).1) = _
        unfold bsS; rw [if_pos h1]
      · show Sl.val (D.int (bsS p (bsI p (0, m.L - 1) i)).2) = _
        unfold bsS; rw [if_pos h1]
    · refine s_seq (s_set 3 nd (x_sub (x_v 4) x_int)) (s_nil ⟨.inr rfl, .inr rfl, .inr ?_, .inr ?_, .inl rfl, trivial⟩)
      · show Sl.val (D.int (bsS p (bsI p (0, m.L - 1) i)).1) = _
        unfold bsS; rw [if_neg (by rw [h1]; decide)]
      · show Sl.val (D.int (bsS p (bsI p (0, m.L - 1) i)).2) = _
        unfold bsS; rw [if_neg (by rw [h1]; decide)]
  · refine s_cast (ρ' := [.val m.D, .val (.int st), .val (.int k), .val (.int (bsI p (0, m.L - 1) n).2), .any]) (by rw [hL]) ?_
    exact r_ret (x_tup (a_cons (x_v 2) (a_cons (x_sub (x_v 1) (x_v 2)) a_nil)) (Nat.le_of_ble_eq_true rfl)) sa
/-! ### a core: none, one, several inner dials -/
inductive Cor where
  | non | one (s : Int) | msh (m : Msh)
def Cor.sizes : Cor → List Int
  | .non => []
  | .one s => [s]
  | .msh m => m.l ++ m.r.reverse
/-- what d_split gives -/
def Cor.hD : Cor → D
  | .msh m => m.D
  | _ => .tup []
def Cor.many : Cor → Int
  | .non => 1
  | .one s => s
  | .msh m => m.L + m.R - 1
structure COk (c : Cor) : Prop where
  sz : SzB c.sizes
  ms : ∀ m, c = .msh m → MOk m ∧ m.l ≠ [] ∧ m.r ≠ []
theorem COk.two {m : Msh} (h : COk (.msh m)) : 2 ≤ (Cor.msh m).sizes.length := by
  obtain ⟨_, h1, h2⟩ := h.ms m rfl
  show 2 ≤ (m.l ++ m.r.reverse).length
  rw [List.length_append, List.length_reverse]
  have := List.length_pos_iff.mpr h1
  have := List.length_pos_iff.mpr h2
  omega
theorem len_lt2 {n : Nat} (h : 2 ≤ n) : decide ((n : Int) = 0) = false ∧ decide ((n : Int) = 1) = false := ⟨decide_eq_false (by omega), decide_eq_false (by omega)⟩
theorem Cor.many_pos {c : Cor} (h : COk c) : 0 < c.many := by
  cases c with
  | non => decide
  | one s => have := h.sz.two s (by simp [Cor.sizes]); show 0 < s; omega
  | msh m => have := (h.ms m rfl).1.L0; have := (h.ms m rfl).1.R0; show 0 < m.L + m.R - 1; omega
/-! ### d_core_many -/
def F_d_core_many (ds : List D) (r : Res) : Prop := ∃ c : Cor, ds = [.tup (dInts c.sizes), c.hD] ∧ r = .ok (.int c.many) ∧ COk c
theorem sc_d_core_many : FnScope ["inner", "halves"] ["inner", "halves"] (defScope s_d_core_many) := ⟨rfl, rfl, rfl, by decide +kernel, rfl, by decide +kernel, by decide +kernel⟩
theorem fo_d_core_many {Y : Wo} (hh : Y.hd) : Fo Y 1 "d_core_many" ["inner", "halves"] F_d_core_many := by
  have nd : (["inner", "halves"] : List Str).Nodup := sc_d_core_many.nd
  refine mkF (k := 0) (N := ["inner", "halves"]) hh 17 ds_d_core_many sc_d_core_many (fun _ _ _ _ _ _ us hl => match us, hl with | [_, _], _ => rfl) (by rintro ds r ⟨c, rfl, rfl, hc⟩; rfl) ?_
  rintro cdv A outer s H E ds r hr ⟨c, rfl, rfl, hc⟩
  refine r_when (t_eq (x_lenI hh.b_len (x_v 0)) x_int rfl) (fun h => ⟨r_ret (x_is x_int ?_) sa, rfl⟩) (fun h => ?_)
  · have h0 := of_decide_eq_true h
    cases c with
    | non => rfl
    | one s => exact absurd h0 (by show ¬ ((1 : Nat) : Int) = 0; decide)
    | msh m => have := hc.two; omega
  refine r_when (t_eq (x_lenI hh.b_len (x_v 0)) x_int rfl) (fun h => ⟨?_, rfl⟩) (fun h2 => ?_)
  · have h0 := of_decide_eq_true h
    cases c with
    | non => exact absurd h0 (by show ¬ ((0 : Nat) : Int) = 1; decide)
    | one s => exact r_ret (x_ixI (ns := [s]) (n := 0) (x_v 0) x_int rfl Nat.zero_lt_one) sa
    | msh m => have := hc.two; omega
  · have h0 := of_decide_eq_false h
    have h1 := of_decide_eq_false h2
    cases c with
    | non => exact absurd rfl h0
    | one s => exact absurd rfl h1
    | msh m => exact r_ret (x_sub (x_add (x_ix (ds := [.tup (dInts m.l), .tup (dInts m.r), .int m.L, .int m.R, .int m.a, .int m.b]) (x_v 1) x_int rfl rfl) (x_ix (ds := [.tup (dInts m.l), .tup (dInts m.r), .int m.L, .int m.R, .int m.a, .int m.b]) (x_v 1) x_int rfl rfl)) x_int) sa
theorem Msh.it (m : Msh) : seqD m.D = some [.tup (dInts m.l), .tup (dInts m.r), .int m.L, .int m.R, .int m.a, .int m.b] := rfl
/-- the row of a core's stage, k lefts of it -/
def Cor.vals (c : Cor) (st k : Int) : List Int := match c with
  | .non => []
  | .one _ => [st]
  | .msh m => counted m.l k ++ (counted m.r (st - k)).reverse
theorem Cor.vals_len (c : Cor) (st k : Int) : (c.vals st k).length = c.sizes.length := by
  cases c with
  | non => rfl
  | one s => rfl
  | msh m => show (counted m.l k ++ (counted m.r (st - k)).reverse).length = (m.l ++ m.r.reverse).length; simp [counted_len]
def Cor.Left (c : Cor) (st k : Int) : Prop := ∀ m, c = .msh m → m.Left st k
theorem cor_len {c : Cor} (hc : COk c) : (decide ((c.sizes.length : Int) = 0) = true → c = .non) ∧ (decide ((c.sizes.length : Int) = 0) = false → decide ((c.sizes.length : Int) = 1) = true → ∃ s, c = .one s) ∧ (decide ((c.sizes.length : Int) = 0) = false → decide ((c.sizes.length : Int) = 1) = false → ∃ m, c = .msh m) := by
  cases c with
  | non => exact ⟨fun _ => rfl, fun h => absurd h (by decide), fun h => absurd h (by decide)⟩
  | one s => exact ⟨fun h => absurd h (by show ¬ (decide (((1 : Nat) : Int) = 0) = true); decide), fun _ _ => ⟨s, rfl⟩, fun _ h => absurd h (by show ¬ (decide (((1 : Nat) : Int) = 1) = false); decide)⟩
  | msh m =>
    have := hc.two
    exact ⟨fun h => absurd (of_decide_eq_true h) (by omega), fun _ h => absurd (of_decide_eq_true h) (by omega), fun _ _ => ⟨m, rfl⟩⟩
/-! ### d_core_values -/
def F_d_core_values (ds : List D) (r : Res) : Prop := ∃ (c : Cor) (st k : Int), ds = [.tup (dInts c.sizes), c.hD, .int st] ∧ r = .ok (.tup (dInts (c.vals st k))) ∧ COk c ∧ 0 ≤ st ∧ c.Left st k
theorem sc_d_core_values : FnScope ["inner", "halves", "stage", "left", "right"] ["inner", "halves", "stage"] (defScope s_d_core_values) := ⟨rfl, rfl, rfl, by decide +kernel, rfl, by decide +kernel, by decide +kernel⟩
theorem fo_d_core_values {Y : Wo} (hh : Y.hd) : Fo Y 3 "d_core_values" ["inner", "halves", "stage"] F_d_core_values := by
  have nd : (["inner", "halves", "stage", "left", "right"] : List Str).Nodup := sc_d_core_values.nd
  refine mkF (k := 2) (N := ["inner", "halves", "stage", "left", "right"]) hh 18 ds_d_core_values sc_d_core_values (fun _ _ _ _ _ _ us hl => match us, hl with | [_, _, _], _ => rfl) (by rintro ds r ⟨c, st, k, rfl, rfl, hc, h0, hk⟩; rfl) ?_
  rintro cdv A outer s H E ds r hr ⟨c, st, k, rfl, rfl, hc, h0, hk⟩
  obtain ⟨c0, c1, c2⟩ := cor_len hc
  refine r_when (t_eq (x_lenI hh.b_len (x_v 0)) x_int rfl) (fun h => ⟨?_, rfl⟩) (fun h => ?_)
  · obtain rfl := c0 h
    exact r_ret (x_tup (ds := []) a_nil (by decide)) sa
  refine r_when (t_eq (x_lenI hh.b_len (x_v 0)) x_int rfl) (fun h2 => ⟨?_, rfl⟩) (fun h2 => ?_)
  · obtain ⟨s, rfl⟩ := c1 h h2
    exact r_ret (x_tup (ds := [.int st]) (a_cons (x_v 2) a_nil) (Nat.le_of_ble_eq_true rfl)) sa
  obtain ⟨m, rfl⟩ := c2 h h2
  obtain ⟨hm, _⟩ := hc.ms m rfl
  refine s_seq (s_asg2 (a := .int k) (b := .int (st - k)) 3 4 nd (x_f (fo_d_mesh_counts hh) hr (a_cons (x_v 1) (a_cons (x_v 2) a_nil)) ⟨m, st, k, rfl, rfl, hm, h0, hk m rfl⟩)) ?_
  have l1 := hm.zl.len
  have l2 := hm.zr.len
  refine r_ret (x_is (x_catT (x_f (fo_d_counted hh) hr (a_cons (x_ix (x_v 1) x_int m.it rfl) (a_cons (x_v 3) a_nil)) ⟨m.l, k, rfl, rfl, hm.zl⟩) (x_revT (x_f (fo_d_counted hh) hr (a_cons (x_ix (x_v 1) x_int m.it rfl) (a_cons (x_v 4) a_nil)) ⟨m.r, st - k, rfl, rfl, hm.zr⟩)) ?_) ?_) sa
  · rw [List.length_reverse, dInts_len, dInts_len, counted_len, counted_len]; omega
  · rw [dInts_rev, dInts_app2]; rfl
theorem cutD_to (ns : List Int) {n : Int} {k : Nat} (hn : n = (k : Int)) (hk : k ≤ ns.length) : cutD (dInts ns) none (some n) = dInts (ns.take k) := by
  unfold cutD
  have e1 : HT.sIx (dInts ns).length 0 none = 0 := rfl
  have e2 : HT.sIx (dInts ns).length (dInts ns).length (some n) = k := by
    subst hn
    rw [dInts_len]
    unfold HT.sIx
    simp
    split <;> omega
  rw [e1, e2, List.drop_zero, Nat.sub_zero]
  unfold dInts
  rw [List.map_take]
theorem cutD_from (ns : List Int) {n : Int} {k : Nat} (hn : n = (k : Int)) (hk : k ≤ ns.length) : cutD (dInts ns) (some n) none = dInts (ns.drop k) := by
  unfold cutD
  have e1 : HT.sIx (dInts ns).length 0 (some n) = k := by
    subst hn
    rw [dInts_len]
    unfold HT.sIx
    simp
    split <;> omega
  have e2 : HT.sIx (dInts ns).length (dInts ns).length none = (dInts ns).length := rfl
  rw [e1, e2]
  unfold dInts
  rw [List.length_map, ← List.map_drop, List.take_of_length_le (by simp)]
theorem cof_lt {ss vs : List Int} (h : RowOk ss vs) (h2 : ∀ s ∈ ss, 2 ≤ s) : 0 ≤ cof ss vs ∧ cof ss vs < pr ss := by
  have := cofAt_lt h h2 ss.length (Nat.le_refl _)
  rw [List.take_length] at this
  exact this
/-! ### d_core_place -/
def F_d_core_place (ds : List D) (r : Res) : Prop := ∃ (c : Cor) (row : List Int) (st : Int), ds = [.tup (dInts c.sizes), c.hD, .tup (dInts row)] ∧ r = .ok (.int st) ∧ COk c ∧ RowOk c.sizes row ∧ (c = .non → st = 0) ∧ (∀ s, c = .one s → row = [st]) ∧ (∀ m, c = .msh m → st = cof m.l (row.take m.l.length) + cof m.r (row.drop m.l.length).reverse ∧ m.Left st (cof m.l (row.take m.l.length)))
theorem sc_d_core_place : FnScope ["inner", "halves", "row", "gap", "left", "right"] ["inner", "halves", "row"] (defScope s_d_core_place) := ⟨rfl, rfl, rfl, by decide +kernel, rfl, by decide +kernel, by decide +kernel⟩
theorem fo_d_core_place {Y : Wo} (hh : Y.hd) : Fo Y 3 "d_core_place" ["inner", "halves", "row"] F_d_core_place := by
  have nd : (["inner", "halves", "row", "gap", "left", "right"] : List Str).Nodup := sc_d_core_place.nd
  refine mkF (k := 2) (N := ["inner", "halves", "row", "gap", "left", "right"]) hh 19 ds_d_core_place sc_d_core_place (fun _ _ _ _ _ _ us hl => match us, hl with | [_, _, _], _ => rfl) (by rintro ds r ⟨c, row, st, rfl, rfl, hc, hrow, q0, q1, q2⟩; rfl) ?_
  rintro cdv A outer s H E ds r hr ⟨c, row, st, rfl, rfl, hc, hrow, q0, q1, q2⟩
  obtain ⟨c0, c1, c2⟩ := cor_len hc
  refine r_when (t_eq (x_lenI hh.b_len (x_v 0)) x_int rfl) (fun h => ⟨?_, rfl⟩) (fun h => ?_)
  · obtain rfl := c0 h
    exact r_ret (x_is x_int (by rw [q0 rfl])) sa
  refine r_when (t_eq (x_lenI hh.b_len (x_v 0)) x_int rfl) (fun h2 => ⟨?_, rfl⟩) (fun h2 => ?_)
  · obtain ⟨s, rfl⟩ := c1 h h2
    obtain rfl := q1 s rfl
    exact r_ret (x_ixI (ns := [st]) (n := 0) (x_v 2) x_int rfl Nat.zero_lt_one) sa
  obtain ⟨m, rfl⟩ := c2 h h2
  obtain ⟨hm, _⟩ := hc.ms m rfl
  obtain ⟨e1, e2⟩ := q2 m rfl
  have hlen : row.length = m.l.length + m.r.length := by rw [hrow.1]; show (m.l ++ m.r.reverse).length = _; simp
  have hl : RowOk m.l (row.take m.l.length) := ⟨by rw [List.length_take]; omega, fun i h1 h2 => by
    have h3 : i < row.length := by omega
    have h4 : i < (Cor.msh m).sizes.length := by rw [← hrow.1]; exact h3
    have := hrow.2 i h4 h3
    have e : (Cor.msh m).sizes[i] = m.l[i] := List.getElem_append_left h1
    rw [e] at this
    rw [List.getElem_take]; exact this⟩
  have hrr : RowOk m.r (row.drop m.l.length).reverse := ⟨by rw [List.length_reverse, List.length_drop]; omega, fun i h1 h2 => by
    rw [List.getElem_reverse, List.getElem_drop]
    have hd : (row.drop m.l.length).length = m.r.length := by rw [List.length_drop]; omega
    have h3 : m.l.length + ((row.drop m.l.length).length - 1 - i) < row.length := by omega
    have h4 : m.l.length + ((row.drop m.l.length).length - 1 - i) < (Cor.msh m).sizes.length := by rw [← hrow.1]; exact h3
    have := hrow.2 _ h4 h3
    have e : (Cor.msh m).sizes[m.l.length + ((row.drop m.l.length).length - 1 - i)]? = some m.r[i] := by
      show (m.l ++ m.r.reverse)[m.l.length + ((row.drop m.l.length).length - 1 - i)]? = some m.r[i]
      rw [List.getElem?_append_right (by omega), List.getElem?_reverse (by omega), List.getElem?_eq_some_iff]
      refine ⟨by omega, ?_⟩
      congr 1
      omega
    rw [List.getElem?_eq_getElem h4] at e
    have e := Option.some.inj e
    rw [e] at this
    exact this⟩
  have b1 := cof_lt hl hm.zl.two
  have b2 := cof_lt hrr hm.zr.two
  refine s_seq (s_set 3 nd (x_is (x_len (ds := dInts m.l) rfl hh.b_len (x_ix (x_v 1) x_int m.it rfl)) (by rw [dInts_len]))) ?_
  refine s_seq (s_set (d := .int (cof m.l (row.take m.l.length))) 4 nd (x_f (fo_d_count_of hh) hr (a_cons (x_ix (x_v 1) x_int m.it rfl) (a_cons (x_is (x_slT (x_v 2) o_no (o_at (x_v 3))) (by rw [cutD_to row rfl (by omega)])) a_nil)) ⟨m.l, _, rfl, rfl, hm.zl, hl⟩)) ?_
  refine s_seq (s_set (d := .int (cof m.r (row.drop m.l.length).reverse)) 5 nd (x_f (fo_d_count_of hh) hr (a_cons (x_ix (x_v 1) x_int m.it rfl) (a_cons (x_is (x_revT (x_slT (x_v 2) (o_at (x_v 3)) o_no)) (by rw [cutD_from row rfl (by omega), dInts_rev])) a_nil)) ⟨m.r, _, rfl, rfl, hm.zr, hrr⟩)) ?_
  refine r_skip (t_is (t_neT (ns := [cof m.l (row.take m.l.length), cof m.r (row.drop m.l.length).reverse]) (ms := [cof m.l (row.take m.l.length), cof m.r (row.drop m.l.length).reverse]) hr (x_f (fo_d_mesh_counts hh) hr (a_cons (x_v 1) (a_cons (x_add (x_v 4) (x_v 5)) a_nil)) ⟨m, _, cof m.l (row.take m.l.length), rfl, by rw [Int.add_comm, Int.add_sub_cancel]; rfl, hm, by omega, by rw [← e1]; exact e2⟩) (x_tup (a_cons (x_v 4) (a_cons (x_v 5) a_nil)) (Nat.le_of_ble_eq_true rfl))) (by rw [decide_eq_true rfl]; rfl)) ?_
  exact r_ret (x_is (x_add (x_v 4) (x_v 5)) (by rw [e1])) sa
end Sd

namespace Sd
open PySem PySem.Spec L2
open PyProof.Rows (envOfC)

/-! ### sizes -/
def gtab : List Int := [9, 97, 1009, 1000003, 999999937, 1000000000039]
def szA (s : Int) : Int := 2 + drI s 3
def szT (s : Int) : Int := drI (nxI s) 8
/-- the state, the size behind the tests of kind 1, 2, 3 -/
def sz1 (kind s : Int) : Int × Int := if kind = 1 ∧ szT s < 4 then (nxI (nxI (nxI s)), 2 + drI (nxI (nxI s)) 60) else (nxI (nxI s), szA s)
def gOf (s : Int) : Int := gtab.getD (szT s).toNat 9
def sz2 (kind s : Int) : Int × Int := if kind = 2 ∧ szT s < 6 then (nxIt (sz1 kind s).1 (lapsI (gOf s)), 2 + greatI (sz1 kind s).1 (gOf s)) else sz1 kind s
def sz3 (kind s : Int) : Int := if kind = 3 then 2 + szT s / 7 else (sz2 kind s).2
def szE (kind s room : Int) : Int := if room < sz3 kind s then 2 else sz3 kind s
/-- the state, the room ahead of turn j -/
def szI (kind s room : Int) : Nat → Int × Int
  | 0 => (s, room)
  | j + 1 => ((sz2 kind (szI kind s room j).1).1, (szI kind s room j).2 / szE kind (szI kind s room j).1 (szI kind s room j).2)
def szL (kind s room : Int) (n : Nat) : List Int := (List.range n).map fun j => szE kind (szI kind s room j).1 (szI kind s room j).2
theorem gOf_bd (s : Int) : 9 ≤ gOf s ∧ gOf s ≤ 1000000000039 := by
  have h := drI_bd (nxI s) (show (0 : Int) < 8 by decide)
  unfold gOf szT
  obtain ⟨n, hn⟩ : ∃ n : Nat, drI (nxI s) 8 = n := ⟨(drI (nxI s) 8).toNat, by omega⟩
  rw [hn]
  rw [hn] at h
  have h8 : n < 8 := by omega
  rw [Int.toNat_natCast]
  match n, h8 with
  | 0, _ => decide
  | 1, _ => decide
  | 2, _ => decide
  | 3, _ => decide
  | 4, _ => decide
  | 5, _ => decide
  | 6, _ => decide
  | 7, _ => decide
theorem sz1_bd (kind s : Int) : BxI (sz1 kind s).1 ∧ 2 ≤ (sz1 kind s).2 ∧ (sz1 kind s).2 ≤ 62 := by
  unfold sz1
  split
  · have := drI_bd (nxI (nxI s)) (show (0 : Int) < 60 by decide)
    exact ⟨nxI_bd _, by show 2 ≤ 2 + _; omega, by show 2 + _ ≤ (62 : Int); omega⟩
  · have := drI_bd s (show (0 : Int) < 3 by decide)
    exact ⟨nxI_bd _, by show 2 ≤ 2 + _; omega, by show 2 + _ ≤ (62 : Int); omega⟩
theorem sz2_bd (kind s : Int) : BxI (sz2 kind s).1 ∧ 2 ≤ (sz2 kind s).2 ∧ (sz2 kind s).2 ≤ 1000000000041 := by
  obtain ⟨a, b, c⟩ := sz1_bd kind s
  unfold sz2
  split
  · have g := gOf_bd s
    have h0 := Int.emod_nonneg (grN (sz1 kind s).1 (lapsI (gOf s))) (show gOf s ≠ 0 by omega)
    have h1 := Int.emod_lt_of_pos (grN (sz1 kind s).1 (lapsI (gOf s))) (show 0 < gOf s by omega)
    exact ⟨nxIt_bd a _, by show 2 ≤ 2 + greatI _ _; unfold greatI; omega, by show 2 + greatI _ _ ≤ (1000000000041 : Int); unfold greatI; omega⟩
  · exact ⟨a, b, by omega⟩
theorem sz3_bd (kind s : Int) : 2 ≤ sz3 kind s ∧ sz3 kind s ≤ 1000000000041 := by
  have h := drI_bd (nxI s) (show (0 : Int) < 8 by decide)
  have := sz2_bd kind s
  unfold sz3 szT
  split <;> omega
theorem szE_bd (kind s room : Int) : 2 ≤ szE kind s room ∧ szE kind s room ≤ 1000000000041 := by
  have := sz3_bd kind s
  unfold szE
  split <;> omega
theorem szI_bd {kind s room : Int} (hs : BxI s) (hr : 0 ≤ room) : ∀ j, BxI (szI kind s room j).1 ∧ 0 ≤ (szI kind s room j).2 ∧ (szI kind s room j).2 ≤ room
  | 0 => ⟨hs, hr, Int.le_refl _⟩
  | j + 1 => by
    obtain ⟨a, b, c⟩ := szI_bd (kind := kind) hs hr j
    have e := szE_bd kind (szI kind s room j).1 (szI kind s room j).2
    have := Int.ediv_nonneg b (show 0 ≤ szE kind (szI kind s room j).1 (szI kind s room j).2 by omega)
    have := Int.ediv_le_self (szE kind (szI kind s room j).1 (szI kind s room j).2) b
    exact ⟨(sz2_bd _ _).1, by show 0 ≤ _ / _; omega, by show _ / _ ≤ _; omega⟩
theorem szE_41 (kind s room : Int) : Bd 41 (szE kind s room) := by
  have := szE_bd kind s room
  exact (Bd.lit 41 (i := 1000000000041) (by decide)).le (by omega) this.2
theorem szL_ok {kind s room : Int} {n : Nat} (hn : n ≤ 40) : SzB (szL kind s room n) := by
  refine ⟨by simp [szL]; exact hn, fun k hk => ?_, fun k hk => ?_⟩
  · obtain ⟨j, _, e⟩ := List.mem_map.mp hk
    rw [← e]; exact (szE_bd _ _ _).1
  · obtain ⟨j, _, e⟩ := List.mem_map.mp hk
    rw [← e]; exact szE_41 _ _ _
/-! ### _law_sizes -/
def F_law_sizes (bs ds cs : List D) (r : D) : Prop := ∃ (s kind room : Int) (n : Nat), bs = [.int s] ∧ ds = [.int n, .int kind, .int room] ∧ cs = [.int (szI kind s room n).1] ∧ r = .tup [.tup (dInts (szL kind s room n)), .int (szI kind s room n).2] ∧ BxI s ∧ 0 ≤ room ∧ n ≤ 40
theorem sc_law_sizes : FnScope ["_law_box", "_law_many", "_law_kind", "_law_room", "_law_sizes_here", "_law_k", "_law_size", "_law_turn"] ["_law_box", "_law_many", "_law_kind", "_law_room"] (defScope s_law_sizes) := ⟨rfl, rfl, rfl, by decide +kernel, rfl, by decide +kernel, by decide +kernel⟩
theorem fo_law_sizes {Y : Wo} (hh : Y.hd) : FoB Y 3 "_law_sizes" ["_law_box", "_law_many", "_law_kind", "_law_room"] F_law_sizes := by
  have nd : (["_law_box", "_law_many", "_law_kind", "_law_room", "_law_sizes_here", "_law_k", "_law_size", "_law_turn"] : List Str).Nodup := sc_law_sizes.nd
  refine mkB (k := 2) (N := ["_law_box", "_law_many", "_law_kind", "_law_room", "_law_sizes_here", "_law_k", "_law_size", "_law_turn"]) hh 52 ds_law_sizes sc_law_sizes (fun _ _ _ _ _ _ us hl => match us, hl with | [_, _, _, _], _ => rfl) (by rintro bs ds cs r ⟨s', kind, room, n, rfl, rfl, rfl, rfl, hs, hr0, hn⟩; rfl) ?_
  rintro cdv A outer s H E bs ds cs r hr ⟨s', kind, room, n, rfl, rfl, rfl, rfl, hs, hr0, hn⟩
  refine ⟨anys 7, ?_⟩
  refine s_seq (s_setN 4 nd (n_lst (ds := []) a_nil (by decide))) ?_
  refine s_seq (s_forN (ys := rngD 0 1 ((n : Int)).toNat) 5 nd (i_rng1 hh.b_range (x_v 1) (by omega) (by omega)) (fun j => [.box (.lst [.int (szI kind s' room j).1]), .val (.int n), .val (.int kind), .val (.int (szI kind s' room j).2), .own (.lst (dInts ((szL kind s' room n).take j))), .any, .any, .any]) ⟨.inr rfl, .inr rfl, .inr rfl, .inr rfl, .inr rfl, .inl rfl, .inl rfl, .inl rfl, trivial⟩ (fun j d hj => ?_)) ?_
  · obtain ⟨h, rfl⟩ := rngD_get hj
    have hj' : j < n := by omega
    obtain ⟨b1, b2, b3⟩ := szI_bd (kind := kind) hs hr0 j
    generalize hst : (szI kind s' room j).1 = st at b1
    generalize hrm : (szI kind s' room j).2 = rm at b2 b3
    have tb := drI_bd (nxI st) (show (0 : Int) < 8 by decide)
    refine s_seq (s_set (d := .int (szA st)) 6 nd (x_add x_int (x_fB 0 (fo_law_draw hh) hr (a_cons x_int a_nil) rfl (.inr rfl) ⟨st, 3, rfl, rfl, rfl, rfl, b1, by decide⟩))) ?_
    refine s_seq (s_set (d := .int (szT st)) 7 nd (x_fB 0 (fo_law_draw hh) hr (a_cons x_int a_nil) rfl (.inr rfl) ⟨nxI st, 8, rfl, rfl, rfl, rfl, nxI_bd _, by decide⟩)) ?_
    have e1 := sz1_bd kind st
    have e2 := sz2_bd kind st
    have e3 := sz3_bd kind st
    have e4 := szE_bd kind st rm
    have g := gOf_bd st
    have bnd : ∀ {a b : Bool}, (a && b) = true → a = true ∧ b = true := fun h => by simpa using h
    refine r_if (ρ1 := [.box (.lst [.int (sz1 kind st).1]), .val (.int n), .val (.int kind), .val (.int rm), .own (.lst (dInts ((szL kind s' room n).take j))), .any, .val (.int (sz1 kind st).2), .val (.int (szT st))]) (t_W (w_and (t_eq (x_v 2) x_int rfl) fun _ => w_and1 (t_lt (x_v 7) x_int))) (fun hc => ?_) (fun hc => ?_) ?_
    · obtain ⟨c1, c2⟩ := bnd hc
      have ez : sz1 kind st = (nxI (nxI (nxI st)), 2 + drI (nxI (nxI st)) 60) := by unfold sz1; rw [if_pos ⟨of_decide_eq_true c1, of_decide_eq_true c2⟩]
      refine s_seq (s_set (d := .int (2 + drI (nxI (nxI st)) 60)) 6 nd (x_add x_int (x_fB 0 (fo_law_draw hh) hr (a_cons x_int a_nil) rfl (.inr rfl) ⟨nxI (nxI st), 60, rfl, rfl, rfl, rfl, nxI_bd _, by decide⟩))) (s_nil ⟨.inr (by rw [ez]; rfl), .inr rfl, .inr rfl, .inr rfl, .inr rfl, .inl rfl, .inr (by rw [ez]), .inr rfl, trivial⟩)
    · have ez : sz1 kind st = (nxI (nxI st), szA st) := by
        unfold sz1
        refine if_neg fun z => ?_
        rw [decide_eq_true z.1, decide_eq_true z.2] at hc
        cases hc
      exact s_nil ⟨.inr (by rw [ez]; rfl), .inr rfl, .inr rfl, .inr rfl, .inr rfl, .inl rfl, .inr (by rw [ez]), .inr rfl, trivial⟩
    refine r_if (ρ1 := [.box (.lst [.int (sz2 kind st).1]), .val (.int n), .val (.int kind), .val (.int rm), .own (.lst (dInts ((szL kind s' room n).take j))), .any, .val (.int (sz2 kind st).2), .val (.int (szT st))]) (t_W (w_and (t_eq (x_v 2) x_int rfl) fun _ => w_and1 (t_lt (x_v 7) x_int))) (fun hc => ?_) (fun hc => ?_) ?_
    · obtain ⟨c1, c2⟩ := bnd hc
      have ez : sz2 kind st = (nxIt (sz1 kind st).1 (lapsI (gOf st)), 2 + greatI (sz1 kind st).1 (gOf st)) := by unfold sz2; rw [if_pos ⟨of_decide_eq_true c1, of_decide_eq_true c2⟩]
      obtain ⟨q, hq⟩ : ∃ q : Nat, szT st = q := ⟨(szT st).toNat, by unfold szT; omega⟩
      have hq6 : q < 6 := by have := of_decide_eq_true c2; omega
      have eg : gOf st = gtab[q]'hq6 := by unfold gOf; rw [hq, Int.toNat_natCast]; rw [List.getD_eq_getElem?_getD, List.getElem?_eq_getElem hq6]; rfl
      refine s_seq (s_set (d := .int (2 + greatI (sz1 kind st).1 (gOf st))) 6 nd (x_add x_int (x_fB 0 (fo_law_great hh) hr (a_cons (x_is (x_ixI (ns := gtab) (n := q) (x_tup (ds := dInts gtab) (a_cons x_int (a_cons x_int (a_cons x_int (a_cons x_int (a_cons x_int (a_cons x_int a_nil)))))) (Nat.le_of_ble_eq_true rfl)) (x_v 7) hq hq6) (by rw [eg])) a_nil) rfl (.inr rfl) ⟨(sz1 kind st).1, gOf st, rfl, rfl, rfl, rfl, e1.1, by omega, ((Bd.lit 41 (i := 1000000000039) (by decide)).le (by omega) g.2).mono (by decide)⟩))) (s_nil ⟨.inr (by rw [ez]; rfl), .inr rfl, .inr rfl, .inr rfl, .inr rfl, .inl rfl, .inr (by rw [ez]), .inr rfl, trivial⟩)
    · have ez : sz2 kind st = sz1 kind st := by
        unfold sz2
        refine if_neg fun z => ?_
        rw [decide_eq_true z.1, decide_eq_true z.2] at hc
        cases hc
      exact s_nil ⟨.inr (by rw [ez]), .inr rfl, .inr rfl, .inr rfl, .inr rfl, .inl rfl, .inr (by rw [ez]), .inr rfl, trivial⟩
    refine r_if (ρ1 := [.box (.lst [.int (sz2 kind st).1]), .val (.int n), .val (.int kind), .val (.int rm), .own (.lst (dInts ((szL kind s' room n).take j))), .any, .val (.int (sz3 kind st)), .val (.int (szT st))]) (t_eq (x_v 2) x_int rfl) (fun hc => ?_) (fun hc => ?_) ?_
    · refine s_seq (s_set (d := .int (2 + szT st / 7)) 6 nd (x_add x_int (x_divS (x_v 7) x_int (by decide) ((Bd.lit 3 (by decide)).mono (by decide))))) (s_nil ⟨.inr rfl, .inr rfl, .inr rfl, .inr rfl, .inr rfl, .inl rfl, .inr (by unfold sz3; rw [ifT hc]), .inr rfl, trivial⟩)
    · exact s_nil ⟨.inr rfl, .inr rfl, .inr rfl, .inr rfl, .inr rfl, .inl rfl, .inr (by unfold sz3; rw [ifF hc]), .inr rfl, trivial⟩
    refine r_if (ρ1 := [.box (.lst [.int (sz2 kind st).1]), .val (.int n), .val (.int kind), .val (.int rm), .own (.lst (dInts ((szL kind s' room n).take j))), .any, .val (.int (szE kind st rm)), .val (.int (szT st))]) (t_gt (x_v 6) (x_v 3)) (fun hc => ?_) (fun hc => ?_) ?_
    · refine s_seq (s_set (d := .int 2) 6 nd x_int) (s_nil ⟨.inr rfl, .inr rfl, .inr rfl, .inr rfl, .inr rfl, .inl rfl, .inr (by unfold szE; rw [ifT hc]), .inr rfl, trivial⟩)
    · exact s_nil ⟨.inr rfl, .inr rfl, .inr rfl, .inr rfl, .inr rfl, .inl rfl, .inr (by unfold szE; rw [ifF hc]), .inr rfl, trivial⟩
    refine s_seq (s_set 3 nd (x_divS (x_v 3) (x_v 6) (by omega) ((szE_41 kind st rm).mono (by decide)))) ?_
    refine s_seq (s_app 4 (x_v 6) rfl (.inl rfl) (by rw [dInts_len, List.length_take]; omega)) ?_
    have hjl : j < (szL kind s' room n).length := by simpa [szL] using hj'
    refine s_nil ⟨.inr ?_, .inr rfl, .inr rfl, .inr ?_, .inr ?_, .inl rfl, .inl rfl, .inl rfl, trivial⟩
    · show Sl.box (.lst [.int (sz2 kind (szI kind s' room j).1).1]) = _; rw [hst]
    · show Sl.val (.int ((szI kind s' room j).2 / szE kind (szI kind s' room j).1 (szI kind s' room j).2)) = _; rw [hst, hrm]
    · rw [List.take_succ_eq_append_getElem hjl, ← dInts_app]
      have hg : (szL kind s' room n)[j]? = some (szE kind st rm) := by unfold szL; rw [List.getElem?_map, List.getElem?_range hj']; show some (szE kind (szI kind s' room j).1 (szI kind s' room j).2) = _; rw [hst, hrm]
      have : (szL kind s' room n)[j] = szE kind st rm := by rw [List.getElem?_eq_getElem hjl] at hg; exact Option.some.inj hg
      rw [this]; rfl
  · have hll : (szL kind s' room n).length = n := by simp [szL]
    refine s_sub (ρ' := [.box (.lst [.int (szI kind s' room n).1]), .any, .any, .val (.int (szI kind s' room n).2), .own (.lst (dInts (szL kind s' room n))), .any, .any, .any]) ⟨.inr (by rw [rngD_len, Int.toNat_natCast]), .inl rfl, .inl rfl, .inr (by rw [rngD_len, Int.toNat_natCast]), .inr (by rw [rngD_len, Int.toNat_natCast, List.take_of_length_le (by omega)]), .inl rfl, .inl rfl, .inl rfl, trivial⟩ ?_
    refine r_ret (x_tup (a_cons (x_tupM hh.b_tuple (n := 4) (.inl rfl)) (a_cons (x_v 3) a_nil)) (Nat.le_of_ble_eq_true rfl)) ⟨.inr rfl, .inl rfl, .inl rfl, .inl rfl, .inl rfl, .inl rfl, .inl rfl, .inl rfl, trivial⟩
/-! ### the nest that is drawn -/
def ktab : List Int := [0, 0, 1, 1, 2, 2, 2, 2, 2, 3]
def mtab : List Int := [0, 0, 1, 2, 3, 4, 5, 7]
def tabAt (t : List Int) (i : Int) : Int := t.getD i.toNat 0
/-- the state behind all draws, kind, many of outer, inner dials -/
def nsK (s : Int) : Int := tabAt ktab (drI s 10)
def ns1 (s : Int) : Int × Int × Int := (nxI (nxI (nxI s)), drI (nxI s) 5, tabAt mtab (drI (nxI (nxI s)) 8))
def ns2 (s : Int) : Int × Int × Int := if nsK s = 3 then (nxI (nxI (ns1 s).1), drI (ns1 s).1 4, 8 + drI (nxI (ns1 s).1) 23) else ns1 s
def ns3 (s : Int) : Int × Int × Int := if [(ns2 s).2.1, (ns2 s).2.2] = [0, 0] then (nxI (ns2 s).1, 0, 1 + drI (ns2 s).1 3) else ns2 s
def nsO (s : Int) : List Int := szL (nsK s) (ns3 s).1 (10 ^ 30) (ns3 s).2.1.toNat
def nsR (s : Int) : Int × Int := szI (nsK s) (ns3 s).1 (10 ^ 30) (ns3 s).2.1.toNat
def nsN (s : Int) : List Int := szL (nsK s) (nsR s).1 ((nsR s).2 * 10 ^ 26) (ns3 s).2.2.toNat
def nsE (s : Int) : Int := (szI (nsK s) (nsR s).1 ((nsR s).2 * 10 ^ 26) (ns3 s).2.2.toNat).1
theorem tab_at {t : List Int} {i : Int} (h0 : 0 ≤ i) (h1 : i < t.length) : ∃ (n : Nat) (hn : n < t.length), i = n ∧ t[n] = tabAt t i := by
  refine ⟨i.toNat, by omega, by omega, ?_⟩
  unfold tabAt
  rw [List.getD_eq_getElem?_getD, List.getElem?_eq_getElem (by omega)]; rfl
theorem ns3_bd {s : Int} : BxI (ns3 s).1 ∧ 0 ≤ (ns3 s).2.1 ∧ (ns3 s).2.1 ≤ 4 ∧ 0 ≤ (ns3 s).2.2 ∧ (ns3 s).2.2 ≤ 30 ∧ 1 ≤ (ns3 s).2.1 + (ns3 s).2.2 := by
  have a1 := drI_bd (nxI s) (show (0 : Int) < 5 by decide)
  have a2 := drI_bd (nxI (nxI s)) (show (0 : Int) < 8 by decide)
  have t2 : 0 ≤ tabAt mtab (drI (nxI (nxI s)) 8) ∧ tabAt mtab (drI (nxI (nxI s)) 8) ≤ 7 := by
    obtain ⟨n, hn, e, e2⟩ := tab_at (t := mtab) a2.1 a2.2
    rw [← e2]
    have hm : ∀ k ∈ mtab, 0 ≤ k ∧ k ≤ 7 := by decide
    exact hm _ (List.getElem_mem hn)
  have b : BxI (ns2 s).1 ∧ 0 ≤ (ns2 s).2.1 ∧ (ns2 s).2.1 ≤ 4 ∧ 0 ≤ (ns2 s).2.2 ∧ (ns2 s).2.2 ≤ 30 := by
    unfold ns2
    split
    · have b1 := drI_bd (ns1 s).1 (show (0 : Int) < 4 by decide)
      have b2 := drI_bd (nxI (ns1 s).1) (show (0 : Int) < 23 by decide)
      refine ⟨nxI_bd _, b1.1, ?_, ?_, ?_⟩ <;> dsimp only <;> omega
    · refine ⟨nxI_bd _, a1.1, ?_, t2.1, ?_⟩ <;> dsimp only [ns1] <;> omega
  unfold ns3
  split
  · have c := drI_bd (ns2 s).1 (show (0 : Int) < 3 by decide)
    refine ⟨nxI_bd _, ?_, ?_, ?_, ?_, ?_⟩ <;> dsimp only <;> omega
  · rename_i hne
    refine ⟨b.1, b.2.1, b.2.2.1, b.2.2.2.1, b.2.2.2.2, ?_⟩
    have : ¬ ((ns2 s).2.1 = 0 ∧ (ns2 s).2.2 = 0) := fun z => hne (by rw [z.1, z.2])
    omega
theorem nsO_ok (s : Int) : SzB (nsO s) := szL_ok (by have := ns3_bd (s := s); omega)
theorem nsN_ok (s : Int) : SzB (nsN s) := szL_ok (by have := ns3_bd (s := s); omega)
theorem ns_len (s : Int) : (nsO s).length ≤ 4 ∧ (nsN s).length ≤ 30 ∧ 1 ≤ (nsO s).length + (nsN s).length := by
  have := ns3_bd (s := s)
  have h1 : (nsO s).length = (ns3 s).2.1.toNat := by simp [nsO, szL]
  have h2 : (nsN s).length = (ns3 s).2.2.toNat := by simp [nsN, szL]
  omega
theorem nsR_bd (s : Int) : BxI (nsR s).1 ∧ 0 ≤ (nsR s).2 ∧ (nsR s).2 ≤ 10 ^ 30 := szI_bd (ns3_bd (s := s)).1 (by decide) _
theorem nsE_bd (s : Int) : BxI (nsE s) := (szI_bd (nsR_bd s).1 (Int.mul_nonneg (nsR_bd s).2.1 (by decide)) _).1
theorem x_is' {X : Cx} {ρ ρ1 : List Sl} {e : Expr} {d1 d : D} (h : PE X e (tG ρ ρ1 d1)) (q : d1 = d) : PE X e (tG ρ ρ1 d) := q ▸ h
/-! ### _law_nest -/
def F_law_nest (bs ds cs : List D) (r : D) : Prop := ∃ s : Int, bs = [.int s] ∧ ds = [] ∧ cs = [.int (nsE s)] ∧ r = .tup [.tup (dInts (nsO s)), .tup (dInts (nsN s))] ∧ BxI s
theorem sc_law_nest : FnScope ["_law_box", "_law_kind", "_law_many", "_law_outer_here", "_law_inner"] ["_law_box"] (defScope s_law_nest) := ⟨rfl, rfl, rfl, by decide +kernel, rfl, by decide +kernel, by decide +kernel⟩
theorem fo_law_nest {Y : Wo} (hh : Y.hd) : FoB Y 4 "_law_nest" ["_law_box"] F_law_nest := by
  have nd : (["_law_box", "_law_kind", "_law_many", "_law_outer_here", "_law_inner"] : List Str).Nodup := sc_law_nest.nd
  refine mkB (k := 3) (N := ["_law_box", "_law_kind", "_law_many", "_law_outer_here", "_law_inner"]) hh 53 ds_law_nest sc_law_nest (fun _ _ _ _ _ _ us hl => match us, hl with | [_], _ => rfl) (by rintro bs ds cs r ⟨s', rfl, rfl, rfl, rfl, hs⟩; rfl) ?_
  rintro cdv A outer s H E bs ds cs r hr ⟨s', rfl, rfl, rfl, rfl, hs⟩
  refine ⟨anys 4, ?_⟩
  have d0 := drI_bd s' (show (0 : Int) < 10 by decide)
  have a1 := drI_bd (nxI s') (show (0 : Int) < 5 by decide)
  have a2 := drI_bd (nxI (nxI s')) (show (0 : Int) < 8 by decide)
  obtain ⟨q, hq, e1, e2⟩ := tab_at (t := ktab) d0.1 d0.2
  obtain ⟨q', hq', e1', e2'⟩ := tab_at (t := mtab) a2.1 a2.2
  refine s_seq (s_set (d := .int (nsK s')) 1 nd (x_is' (x_ixI (ns := ktab) (n := q) (x_tup (ds := dInts ktab) (a_cons x_int (a_cons x_int (a_cons x_int (a_cons x_int (a_cons x_int (a_cons x_int (a_cons x_int (a_cons x_int (a_cons x_int (a_cons x_int a_nil)))))))))) (Nat.le_of_ble_eq_true rfl)) (x_fB 0 (fo_law_draw hh) hr (a_cons x_int a_nil) rfl (.inr rfl) ⟨s', 10, rfl, rfl, rfl, rfl, hs, by decide⟩) e1 hq) (by rw [e2]; rfl))) ?_
  refine s_seq (s_set (d := .tup (dInts [(ns1 s').2.1, (ns1 s').2.2])) 2 nd (x_tup (ds := [.int (ns1 s').2.1, .int (ns1 s').2.2]) (a_cons (x_fB 0 (fo_law_draw hh) hr (a_cons x_int a_nil) rfl (.inr rfl) ⟨nxI s', 5, rfl, rfl, rfl, rfl, nxI_bd _, by decide⟩) (a_cons (x_is' (x_ixI (ns := mtab) (n := q') (x_tup (ds := dInts mtab) (a_cons x_int (a_cons x_int (a_cons x_int (a_cons x_int (a_cons x_int (a_cons x_int (a_cons x_int (a_cons x_int a_nil)))))))) (Nat.le_of_ble_eq_true rfl)) (x_fB 0 (fo_law_draw hh) hr (a_cons x_int a_nil) rfl (.inr rfl) ⟨nxI (nxI s'), 8, rfl, rfl, rfl, rfl, nxI_bd _, by decide⟩) e1' hq') (by rw [e2']; rfl)) a_nil)) (Nat.le_of_ble_eq_true rfl))) ?_
  refine r_if (ρ1 := [.box (.lst [.int (ns2 s').1]), .val (.int (nsK s')), .val (.tup (dInts [(ns2 s').2.1, (ns2 s').2.2])), .any, .any]) (t_eq (x_v 1) x_int rfl) (fun hc => ?_) (fun hc => ?_) ?_
  · have ez : ns2 s' = (nxI (nxI (ns1 s').1), drI (ns1 s').1 4, 8 + drI (nxI (ns1 s').1) 23) := by unfold ns2; rw [ifT hc]
    refine s_seq (s_set (d := .tup (dInts [drI (ns1 s').1 4, 8 + drI (nxI (ns1 s').1) 23])) 2 nd (x_tup (ds := [.int (drI (ns1 s').1 4), .int (8 + drI (nxI (ns1 s').1) 23)]) (a_cons (x_fB 0 (fo_law_draw hh) hr (a_cons x_int a_nil) rfl (.inr rfl) ⟨(ns1 s').1, 4, rfl, rfl, rfl, rfl, nxI_bd _, by decide⟩) (a_cons (x_add x_int (x_fB 0 (fo_law_draw hh) hr (a_cons x_int a_nil) rfl (.inr rfl) ⟨nxI (ns1 s').1, 23, rfl, rfl, rfl, rfl, nxI_bd _, by decide⟩)) a_nil)) (Nat.le_of_ble_eq_true rfl))) (s_nil ⟨.inr (by rw [ez]; rfl), .inr rfl, .inr (by rw [ez]), .inl rfl, .inl rfl, trivial⟩)
  · have ez : ns2 s' = ns1 s' := by unfold ns2; rw [ifF hc]
    exact s_nil ⟨.inr (by rw [ez]; rfl), .inr rfl, .inr (by rw [ez]), .inl rfl, .inl rfl, trivial⟩
  have nb : BxI (ns2 s').1 := by unfold ns2; split <;> exact nxI_bd _
  refine r_if (ρ1 := [.box (.lst [.int (ns3 s').1]), .val (.int (nsK s')), .val (.tup (dInts [(ns3 s').2.1, (ns3 s').2.2])), .any, .any]) (t_eqT (ns := [(ns2 s').2.1, (ns2 s').2.2]) (ms := [0, 0]) hr (x_v 2) (x_tup (ds := [.int 0, .int 0]) (a_cons x_int (a_cons x_int a_nil)) (Nat.le_of_ble_eq_true rfl))) (fun hc => ?_) (fun hc => ?_) ?_
  · have ez : ns3 s' = (nxI (ns2 s').1, 0, 1 + drI (ns2 s').1 3) := by unfold ns3; rw [ifT hc]
    refine s_seq (s_set (d := .tup (dInts [0, 1 + drI (ns2 s').1 3])) 2 nd (x_tup (ds := [.int 0, .int (1 + drI (ns2 s').1 3)]) (a_cons x_int (a_cons (x_add x_int (x_fB 0 (fo_law_draw hh) hr (a_cons x_int a_nil) rfl (.inr rfl) ⟨(ns2 s').1, 3, rfl, rfl, rfl, rfl, nb, by decide⟩)) a_nil)) (Nat.le_of_ble_eq_true rfl))) (s_nil ⟨.inr (by rw [ez]; rfl), .inr rfl, .inr (by rw [ez]), .inl rfl, .inl rfl, trivial⟩)
  · have ez : ns3 s' = ns2 s' := by unfold ns3; rw [ifF hc]
    exact s_nil ⟨.inr (by rw [ez]), .inr rfl, .inr (by rw [ez]), .inl rfl, .inl rfl, trivial⟩
  obtain ⟨n1, n2, n3, n4, n5, n6⟩ := ns3_bd (s := s')
  have rb := nsR_bd s'
  refine s_seq (s_set (d := .tup [.tup (dInts (nsO s')), .int (nsR s').2]) 3 nd (x_fB 0 (fo_law_sizes hh) hr (a_cons (x_is (x_ixI (ns := [(ns3 s').2.1, (ns3 s').2.2]) (n := 0) (x_v 2) x_int rfl (Nat.le_of_ble_eq_true rfl)) (show D.int (ns3 s').2.1 = D.int ((ns3 s').2.1.toNat : Nat) by congr 1; omega)) (a_cons (x_v 1) (a_cons (x_pow x_int x_int ⟨by decide, by decide, by decide⟩) a_nil))) rfl (.inr rfl) ⟨(ns3 s').1, nsK s', 10 ^ 30, (ns3 s').2.1.toNat, rfl, rfl, rfl, rfl, n1, by decide, by omega⟩)) ?_
  refine s_seq (s_set (d := .tup [.tup (dInts (nsN s')), .int (szI (nsK s') (nsR s').1 ((nsR s').2 * 10 ^ 26) (ns3 s').2.2.toNat).2]) 4 nd (x_fB 0 (fo_law_sizes hh) hr (a_cons (x_is (x_ixI (ns := [(ns3 s').2.1, (ns3 s').2.2]) (n := 1) (x_v 2) x_int rfl (Nat.le_of_ble_eq_true rfl)) (show D.int (ns3 s').2.2 = D.int ((ns3 s').2.2.toNat : Nat) by congr 1; omega)) (a_cons (x_v 1) (a_cons (x_mul (x_ix (d1 := .tup [.tup (dInts (nsO s')), .int (nsR s').2]) (ds := [.tup (dInts (nsO s')), .int (nsR s').2]) (x_v 3) x_int rfl rfl) (x_pow x_int x_int ⟨by decide, by decide, by decide⟩) ((Bd.lit 100 (i := 10 ^ 30) (by decide)).le rb.2.1 rb.2.2) (Bd.lit 90 (by decide)) (by decide)) a_nil))) rfl (.inr rfl) ⟨(nsR s').1, nsK s', (nsR s').2 * 10 ^ 26, (ns3 s').2.2.toNat, rfl, rfl, rfl, rfl, rb.1, Int.mul_nonneg rb.2.1 (by decide), by omega⟩)) ?_
  exact r_ret (x_tup (a_cons (x_ix (d1 := .tup [.tup (dInts (nsO s')), .int (nsR s').2]) (ds := [.tup (dInts (nsO s')), .int (nsR s').2]) (x_v 3) x_int rfl rfl) (a_cons (x_ix (d1 := .tup [.tup (dInts (nsN s')), .int (szI (nsK s') (nsR s').1 ((nsR s').2 * 10 ^ 26) (ns3 s').2.2.toNat).2]) (ds := [.tup (dInts (nsN s')), .int (szI (nsK s') (nsR s').1 ((nsR s').2 * 10 ^ 26) (ns3 s').2.2.toNat).2]) (x_v 4) x_int rfl rfl) a_nil)) (Nat.le_of_ble_eq_true rfl)) ⟨.inr rfl, .inl rfl, .inl rfl, .inl rfl, .inl rfl, trivial⟩
end Sd

namespace Sd
open PySem PySem.Spec L2
open PyProof.Rows (envOfC)

/-! ### _law_product -/
def F_law_product (ds : List D) (r : Res) : Prop := ∃ ns : List Int, ds = [.tup (dInts ns)] ∧ r = .ok (.int (pr ns)) ∧ SzB ns
theorem sc_law_product : FnScope ["_law_sizes_here", "_law_whole", "_law_size"] ["_law_sizes_here"] (defScope s_law_product) := ⟨rfl, rfl, rfl, by decide +kernel, rfl, by decide +kernel, by decide +kernel⟩
theorem fo_law_product {Y : Wo} (hh : Y.hd) : Fo Y 1 "_law_product" ["_law_sizes_here"] F_law_product := by
  have nd : (["_law_sizes_here", "_law_whole", "_law_size"] : List Str).Nodup := sc_law_product.nd
  refine mkF (k := 0) (N := ["_law_sizes_here", "_law_whole", "_law_size"]) hh 51 ds_law_product sc_law_product (fun _ _ _ _ _ _ us hl => match us, hl with | [_], _ => rfl) (by rintro ds r ⟨ns, rfl, rfl, hs⟩; rfl) ?_
  rintro cdv A outer s H E ds r hr ⟨ns, rfl, rfl, hs⟩
  refine s_seq (s_set 1 nd x_int) ?_
  refine s_seq (s_forN 2 nd (i_tup (x_v 0)) (fun i => [.val (.tup (dInts ns)), .val (.int (pr (ns.take i))), .any]) ⟨.inr rfl, .inr rfl, .inl rfl, trivial⟩ (fun i d hi => ?_)) ?_
  · obtain ⟨hl, rfl⟩ := dInts_get hi
    refine s_seq (s_set 1 nd (x_mulS (x_v 1) (x_v 2) (hs.take i).sm (hs.getSm hl))) ?_
    exact s_nil ⟨.inr rfl, .inr (by rw [pr_take hl]), .inl rfl, trivial⟩
  · refine s_cast (ρ' := [.val (.tup (dInts ns)), .val (.int (pr ns)), .any]) (by rw [dInts_len, List.take_length]) ?_
    exact r_ret (x_v 1) sa
/-! ### the law's halves: gap, lefts, rights, last of the left, first of the right -/
structure Hf where
  g : Int
  L : Int
  R : Int
  a : Int
  b : Int
def Hf.ns (h : Hf) : List Int := [h.g, h.L, h.R, h.a, h.b]
def Hf.D (h : Hf) : D := .tup (dInts h.ns)
def besI (ss : List Int) : Nat → Hf
  | 0 => ⟨0, pr ss, pr ss, 2, 2⟩
  | j + 1 => if pr (ss.take (j + 1)) + pr ss / pr (ss.take (j + 1)) < (besI ss j).L + (besI ss j).R then ⟨((j + 1 : Nat) : Int), pr (ss.take (j + 1)), pr ss / pr (ss.take (j + 1)), ss.getD j 0, ss.getD (j + 1) 0⟩ else besI ss j
def halfI (ss : List Int) : Hf := if ss.length < 2 then ⟨ss.length, pr ss, 1, 2, 2⟩ else besI ss (ss.length - 1)
theorem x_hf {X : Cx} {ρ ρ1 : List Sl} {e e2 : Expr} {pos : Pos} {h : Hf} {i : Int} {v : Int} (n : Nat) (h1 : PE X e (tG ρ ρ1 h.D)) (h2 : PE X e2 (tD ρ1 (.int i))) (hi : i = (n : Int)) (hv : h.ns[n]? = some v) (hs : PlainIx e2 := by exact fun _ _ => rfl) : PE X (.Subscript e e2 pos) (tG ρ ρ1 (.int v)) := by
  have hl : n < h.ns.length := (List.getElem?_eq_some_iff.mp hv).1
  have e : h.ns[n] = v := (List.getElem?_eq_some_iff.mp hv).2
  rw [← e]
  exact x_ixI h1 h2 hi hl hs
/-! ### _law_halves -/
def F_law_halves (ds : List D) (r : Res) : Prop := ∃ ss : List Int, ds = [.tup (dInts ss)] ∧ r = .ok (halfI ss).D ∧ SzB ss
theorem sc_law_halves : FnScope ["_law_inner", "_law_whole", "_law_best", "_law_left", "_law_gap", "_law_right"] ["_law_inner"] (defScope s_law_halves) := ⟨rfl, rfl, rfl, by decide +kernel, rfl, by decide +kernel, by decide +kernel⟩
theorem fo_law_halves {Y : Wo} (hh : Y.hd) : Fo Y 2 "_law_halves" ["_law_inner"] F_law_halves := by
  have nd : (["_law_inner", "_law_whole", "_law_best", "_law_left", "_law_gap", "_law_right"] : List Str).Nodup := sc_law_halves.nd
  refine mkF (k := 1) (N := ["_law_inner", "_law_whole", "_law_best", "_law_left", "_law_gap", "_law_right"]) hh 54 ds_law_halves sc_law_halves (fun _ _ _ _ _ _ us hl => match us, hl with | [_], _ => rfl) (by rintro ds r ⟨ss, rfl, rfl, hs⟩; rfl) ?_
  rintro cdv A outer s H E ds r hr ⟨ss, rfl, rfl, hs⟩
  have h40 := hs.len
  refine s_seq (s_set (d := .int (pr ss)) 1 nd (x_f (fo_law_product hh) hr (a_cons (x_v 0) a_nil) ⟨ss, rfl, rfl, hs⟩)) ?_
  refine r_when (t_lt (x_lenI hh.b_len (x_v 0)) x_int) (fun hc => ⟨?_, rfl⟩) (fun hc => ?_)
  · have h2 : ss.length < 2 := by have := of_decide_eq_true hc; omega
    have e : halfI ss = ⟨ss.length, pr ss, 1, 2, 2⟩ := by unfold halfI; rw [if_pos h2]
    rw [e]
    exact r_ret (x_tup (ds := dInts [(ss.length : Int), pr ss, 1, 2, 2]) (a_cons (x_lenI hh.b_len (x_v 0)) (a_cons (x_v 1) (a_cons x_int (a_cons x_int (a_cons x_int a_nil))))) (Nat.le_of_ble_eq_true rfl)) sa
  have h2 : ¬ ss.length < 2 := by have := of_decide_eq_false hc; omega
  have e : halfI ss = besI ss (ss.length - 1) := by unfold halfI; rw [if_neg h2]
  rw [e]
  refine s_seq (s_set (d := (besI ss 0).D) 2 nd (x_tup (ds := dInts [0, pr ss, pr ss, 2, 2]) (a_cons x_int (a_cons (x_v 1) (a_cons (x_v 1) (a_cons x_int (a_cons x_int a_nil))))) (Nat.le_of_ble_eq_true rfl))) ?_
  refine s_seq (s_set 3 nd x_int) ?_
  refine s_seq (s_forN 4 nd (i_rng2 (lo := 1) (n := ss.length) hh.b_range x_int (x_lenI hh.b_len (x_v 0)) (by omega)) (fun j => [.val (.tup (dInts ss)), .val (.int (pr ss)), .val (besI ss j).D, .val (.int (pr (ss.take j))), .any, .any]) ⟨.inr rfl, .inr rfl, .inr rfl, .inr rfl, .inl rfl, .inl rfl, trivial⟩ (fun j d hj => ?_)) ?_
  · obtain ⟨hl, rfl⟩ := rngD_get hj
    have hj1 : j + 1 < ss.length := by omega
    have ej : (1 : Int) + (j : Int) * 1 = ((j + 1 : Nat) : Int) := by omega
    rw [ej]
    have ht := hs.take (j + 1)
    refine s_seq (s_set (d := .int (pr (ss.take (j + 1)))) 3 nd (x_is (x_mulS (x_v 3) (x_ixI (n := j) (x_v 0) (x_sub (x_v 4) x_int) (by omega) (by omega)) (hs.take j).sm (hs.getSm (by omega))) (by rw [pr_take (by omega)]))) ?_
    refine s_seq (s_set 5 nd (x_divS (x_v 1) (x_v 3) ht.pos ht.sm)) ?_
    refine r_if (ρ1 := [.val (.tup (dInts ss)), .val (.int (pr ss)), .val (besI ss (j + 1)).D, .val (.int (pr (ss.take (j + 1)))), .any, .any]) (t_lt (x_add (x_v 3) (x_v 5)) (x_add (x_hf 1 (x_v 2) x_int rfl rfl) (x_hf 2 (x_v 2) x_int rfl rfl))) (fun hc => ?_) (fun hc => ?_) (s_nil (SubL.refl _))
    · have ez : besI ss (j + 1) = ⟨((j + 1 : Nat) : Int), pr (ss.take (j + 1)), pr ss / pr (ss.take (j + 1)), ss.getD j 0, ss.getD (j + 1) 0⟩ := by
        show (if _ < _ then _ else _) = _
        rw [ifT hc]
      refine s_seq (s_set (d := (besI ss (j + 1)).D) 2 nd (x_is (x_tup (ds := dInts [((j + 1 : Nat) : Int), pr (ss.take (j + 1)), pr ss / pr (ss.take (j + 1)), ss[j], ss[j + 1]]) (a_cons (x_v 4) (a_cons (x_v 3) (a_cons (x_v 5) (a_cons (x_ixI (n := j) (x_v 0) (x_sub (x_v 4) x_int) (by omega) (by omega)) (a_cons (x_ixI (n := j + 1) (x_v 0) (x_v 4) rfl hj1) a_nil))))) (Nat.le_of_ble_eq_true rfl)) (by rw [ez, getD_get (by omega), getD_get hj1]; rfl))) (s_nil ⟨.inr rfl, .inr rfl, .inr rfl, .inr rfl, .inl rfl, .inl rfl, trivial⟩)
    · have ez : besI ss (j + 1) = besI ss j := by
        show (if _ < _ then _ else _) = _
        rw [ifF hc]
      exact s_nil ⟨.inr rfl, .inr rfl, .inr (by rw [ez]), .inr rfl, .inl rfl, .inl rfl, trivial⟩
  · have en : (rngD 1 1 ((ss.length : Int) - 1).toNat).length = ss.length - 1 := by rw [rngD_len]; omega
    rw [en]
    exact r_ret (x_v 2) sa
/-! ### comes, rights, begins, wave -/
structure HfOk (h : Hf) : Prop where
  L1 : 1 ≤ h.L
  R1 : 1 ≤ h.R
  LB : Bd 1700 h.L
  RB : Bd 1700 h.R
  a2 : 2 ≤ h.a
  aB : Bd 41 h.a
  b2 : 2 ≤ h.b
  bB : Bd 41 h.b
def Hf.f (h : Hf) (r : Int) : Int := min (r * h.a) (h.L - 1 - (h.R - 1 - r) / h.b)
/-! ### _law_comes -/
def F_law_comes (ds : List D) (r : Res) : Prop := ∃ (h : Hf) (c : Int), ds = [h.D, .int c] ∧ r = .ok (.int (h.f c)) ∧ HfOk h ∧ Bd 3900 c
theorem sc_law_comes : FnScope ["_law_half", "_law_right"] ["_law_half", "_law_right"] (defScope s_law_comes) := ⟨rfl, rfl, rfl, by decide +kernel, rfl, by decide +kernel, by decide +kernel⟩
theorem fo_law_comes {Y : Wo} (hh : Y.hd) : Fo Y 1 "_law_comes" ["_law_half", "_law_right"] F_law_comes := by
  have nd : (["_law_half", "_law_right"] : List Str).Nodup := sc_law_comes.nd
  refine mkF (k := 0) (N := ["_law_half", "_law_right"]) hh 55 ds_law_comes sc_law_comes (fun _ _ _ _ _ _ us hl => match us, hl with | [_, _], _ => rfl) (by rintro ds r ⟨h, c, rfl, rfl, hh2, hc⟩; rfl) ?_
  rintro cdv A outer s H E ds r hr ⟨h, c, rfl, rfl, hh2, hc⟩
  have b2 := hh2.b2
  exact r_ret (x_min hh.b_min rfl (x_mul (x_v 1) (x_hf 3 (x_v 0) x_int rfl rfl) hc hh2.aB (by decide)) (x_sub (x_sub (x_hf 1 (x_v 0) x_int rfl rfl) x_int) (x_divS (x_sub (x_sub (x_hf 2 (x_v 0) x_int rfl rfl) x_int) (x_v 1)) (x_hf 4 (x_v 0) x_int rfl rfl) (by omega) (hh2.bB.mono (by decide))))) sa
def waveI (x s : Int) : Int := if x % (2 * s) < s then x % (2 * s) else 2 * s - 1 - x % (2 * s)
/-! ### _law_wave -/
def F_law_wave (ds : List D) (r : Res) : Prop := ∃ x s : Int, ds = [.int x, .int s] ∧ r = .ok (.int (waveI x s)) ∧ 0 < s ∧ Bd 3900 s
theorem sc_law_wave : FnScope ["_law_step", "_law_size", "_law_place"] ["_law_step", "_law_size"] (defScope s_law_wave) := ⟨rfl, rfl, rfl, by decide +kernel, rfl, by decide +kernel, by decide +kernel⟩
theorem fo_law_wave {Y : Wo} (hh : Y.hd) : Fo Y 1 "_law_wave" ["_law_step", "_law_size"] F_law_wave := by
  have nd : (["_law_step", "_law_size", "_law_place"] : List Str).Nodup := sc_law_wave.nd
  refine mkF (k := 0) (N := ["_law_step", "_law_size", "_law_place"]) hh 58 ds_law_wave sc_law_wave (fun _ _ _ _ _ _ us hl => match us, hl with | [_, _], _ => rfl) (by rintro ds r ⟨x, s', rfl, rfl, h0, hB⟩; rfl) ?_
  rintro cdv A outer s H E ds r hr ⟨x, s', rfl, rfl, h0, hB⟩
  refine s_seq (s_set 2 nd (x_mod (x_toInt hh.b_int (x_v 0)) (x_mul x_int (x_v 1) (Bd.lit 2) hB (by decide)) (by omega))) ?_
  refine r_when (t_lt (x_v 2) (x_v 1)) (fun hc => ⟨r_ret (x_is (x_v 2) ?_) sa, rfl⟩) (fun hc => r_ret (x_is (x_sub (x_sub (x_mul x_int (x_v 1) (Bd.lit 2) hB (by decide)) x_int) (x_v 2)) ?_) sa)
  · unfold waveI; rw [ifT hc]
  · unfold waveI; rw [ifF hc]
/-- a turn of the law's search by halving -/
def lrS (h : Hf) (most w : Int) (x : Int × Int) : Int × Int := if x.1 < x.2 then (if h.f ((x.1 + x.2 + 1) / 2) + w * ((x.1 + x.2 + 1) / 2) ≤ most then ((x.1 + x.2 + 1) / 2, x.2) else (x.1, (x.1 + x.2 + 1) / 2 - 1)) else x
def lrI (h : Hf) (most w : Int) : Nat → Int × Int
  | 0 => (0, h.R - 1)
  | j + 1 => lrS h most w (lrI h most w j)
def rightsI (h : Hf) (most w : Int) : Int := (lrI h most w (Builtin.Int.intBits h.R + 1)).1
theorem lrI_bd {h : Hf} (hk : HfOk h) (most w : Int) : ∀ j, 0 ≤ (lrI h most w j).1 ∧ (lrI h most w j).1 ≤ (lrI h most w j).2 ∧ (lrI h most w j).2 ≤ h.R - 1
  | 0 => by have := hk.R1; show 0 ≤ (0 : Int) ∧ (0 : Int) ≤ h.R - 1 ∧ h.R - 1 ≤ h.R - 1; omega
  | j + 1 => by
    have ih := lrI_bd hk most w j
    show 0 ≤ (lrS h most w (lrI h most w j)).1 ∧ (lrS h most w (lrI h most w j)).1 ≤ (lrS h most w (lrI h most w j)).2 ∧ (lrS h most w (lrI h most w j)).2 ≤ h.R - 1
    unfold lrS
    split
    · split <;> dsimp only <;> omega
    · exact ih
/-! ### _law_rights -/
def F_law_rights (ds : List D) (r : Res) : Prop := ∃ (h : Hf) (most w : Int), ds = [h.D, .int most, .int w] ∧ r = .ok (.int (rightsI h most w)) ∧ HfOk h ∧ Bd 2 w
theorem sc_law_rights : FnScope ["_law_half", "_law_most", "_law_weight", "_law_low", "_law_high", "_law_lap", "_law_middle"] ["_law_half", "_law_most", "_law_weight"] (defScope s_law_rights) := ⟨rfl, rfl, rfl, by decide +kernel, rfl, by decide +kernel, by decide +kernel⟩
theorem fo_law_rights {Y : Wo} (hh : Y.hd) : Fo Y 2 "_law_rights" ["_law_half", "_law_most", "_law_weight"] F_law_rights := by
  have nd : (["_law_half", "_law_most", "_law_weight", "_law_low", "_law_high", "_law_lap", "_law_middle"] : List Str).Nodup := sc_law_rights.nd
  refine mkF (k := 1) (N := ["_law_half", "_law_most", "_law_weight", "_law_low", "_law_high", "_law_lap", "_law_middle"]) hh 56 ds_law_rights sc_law_rights (fun _ _ _ _ _ _ us hl => match us, hl with | [_, _, _], _ => rfl) (by rintro ds r ⟨h, most, w, rfl, rfl, hk, hw⟩; rfl) ?_
  rintro cdv A outer s H E ds r hr ⟨h, most, w, rfl, rfl, hk, hw⟩
  have hb := bits_le hk.RB
  have R1 := hk.R1
  refine s_seq (s_set 3 nd x_int) ?_
  refine s_seq (s_set 4 nd (x_sub (x_hf 2 (x_v 0) x_int rfl rfl) x_int)) ?_
  have el : ((Builtin.Int.intBits h.R : Nat) : Int) + 1 = ((Builtin.Int.intBits h.R + 1 : Nat) : Int) := by omega
  refine s_seq (s_forN (ys := rngD 0 1 (((Builtin.Int.intBits h.R + 1 : Nat) : Int)).toNat) 5 nd (i_rng1 hh.b_range (x_is (x_add (x_bits (x_hf 2 (x_v 0) x_int rfl rfl)) x_int) (by rw [el])) (by omega) (by omega)) (fun j => [.val h.D, .val (.int most), .val (.int w), .val (.int (lrI h most w j).1), .val (.int (lrI h most w j).2), .any, .any]) ⟨.inr rfl, .inr rfl, .inr rfl, .inr rfl, .inr rfl, .inl rfl, .inl rfl, trivial⟩ (fun j d hj => ?_)) ?_
  · obtain ⟨b0, b1, b2⟩ := lrI_bd hk most w j
    refine s_one (s_if (t_lt (x_v 3) (x_v 4)) (fun hc => ?_) (fun hc => ?_))
    · have hlt := of_decide_eq_true hc
      have mB : Bd 1700 (((lrI h most w j).1 + (lrI h most w j).2 + 1) / 2) := hk.RB.le (by omega) (by omega)
      refine s_seq (s_set (d := .int (((lrI h most w j).1 + (lrI h most w j).2 + 1) / 2)) 6 nd (x_divS (x_add (x_add (x_v 3) (x_v 4)) x_int) x_int (by decide) ((Bd.lit 4 (by decide)).mono (by decide)))) ?_
      refine s_one (s_if (t_le (x_add (x_f (fo_law_comes hh) hr (a_cons (x_v 0) (a_cons (x_v 6) a_nil)) ⟨h, _, rfl, rfl, hk, mB.mono (by decide)⟩) (x_mul (x_v 2) (x_v 6) hw mB (by decide))) (x_v 1)) (fun h2 => ?_) (fun h2 => ?_))
      · have ez : lrI h most w (j + 1) = (((lrI h most w j).1 + (lrI h most w j).2 + 1) / 2, (lrI h most w j).2) := by
          show lrS h most w (lrI h most w j) = _
          unfold lrS; rw [ifT hc, ifT h2]
        refine s_seq (s_set 3 nd (x_v 6)) (s_nil ⟨.inr rfl, .inr rfl, .inr rfl, .inr (by rw [ez]), .inr (by rw [ez]), .inl rfl, .inl rfl, trivial⟩)
      · have ez : lrI h most w (j + 1) = ((lrI h most w j).1, ((lrI h most w j).1 + (lrI h most w j).2 + 1) / 2 - 1) := by
          show lrS h most w (lrI h most w j) = _
          unfold lrS; rw [ifT hc, ifF h2]
        refine s_seq (s_set 4 nd (x_sub (x_v 6) x_int)) (s_nil ⟨.inr rfl, .inr rfl, .inr rfl, .inr (by rw [ez]), .inr (by rw [ez]), .inl rfl, .inl rfl, trivial⟩)
    · have ez : lrI h most w (j + 1) = lrI h most w j := by
        show lrS h most w (lrI h most w j) = _
        unfold lrS; rw [ifF hc]
      exact s_nil ⟨.inr rfl, .inr rfl, .inr rfl, .inr (by rw [ez]), .inr (by rw [ez]), .inl rfl, .inl rfl, trivial⟩
  · rw [rngD_len, Int.toNat_natCast]
    exact r_ret (x_v 3) sa
def begsI (h : Hf) (side c : Int) : Int := if side = 0 then c + rightsI h (c - 1) 0 else c + h.f c
/-! ### _law_begins -/
def F_law_begins (ds : List D) (r : Res) : Prop := ∃ (h : Hf) (side c : Int), ds = [h.D, .int side, .int c] ∧ r = .ok (.int (begsI h side c)) ∧ HfOk h ∧ Bd 3900 c
theorem sc_law_begins : FnScope ["_law_half", "_law_side", "_law_count"] ["_law_half", "_law_side", "_law_count"] (defScope s_law_begins) := ⟨rfl, rfl, rfl, by decide +kernel, rfl, by decide +kernel, by decide +kernel⟩
theorem fo_law_begins {Y : Wo} (hh : Y.hd) : Fo Y 3 "_law_begins" ["_law_half", "_law_side", "_law_count"] F_law_begins := by
  have nd : (["_law_half", "_law_side", "_law_count"] : List Str).Nodup := sc_law_begins.nd
  refine mkF (k := 2) (N := ["_law_half", "_law_side", "_law_count"]) hh 57 ds_law_begins sc_law_begins (fun _ _ _ _ _ _ us hl => match us, hl with | [_, _, _], _ => rfl) (by rintro ds r ⟨h, side, c, rfl, rfl, hk, hB⟩; rfl) ?_
  rintro cdv A outer s H E ds r hr ⟨h, side, c, rfl, rfl, hk, hB⟩
  refine r_when (t_eq (x_v 1) x_int rfl) (fun hc => ⟨r_ret (x_is (x_add (x_v 2) (x_f (fo_law_rights hh) hr (a_cons (x_v 0) (a_cons (x_sub (x_v 2) x_int) (a_cons x_int a_nil))) ⟨h, _, 0, rfl, rfl, hk, Bd.lit 2 (by decide)⟩)) ?_) sa, rfl⟩) (fun hc => r_ret (x_is (x_add (x_v 2) (x_f (fo_law_comes hh) hr (a_cons (x_v 0) (a_cons (x_v 2) a_nil)) ⟨h, c, rfl, rfl, hk, hB⟩)) ?_) sa)
  · unfold begsI; rw [ifT hc]
  · unfold begsI; rw [ifF hc]
end Sd

namespace Sd
open PySem PySem.Spec L2
open PyProof.Rows (envOfC)

/-! ### cuts_of -/
def F_cuts_of (ds : List D) (r : Res) : Prop := ∃ ss : List Int, ds = [.tup (dInts ss)] ∧ r = .ok (.tpf (dInts (cutsL ss))) ∧ SzB ss ∧ 2 ≤ ss.length
theorem sc_cuts_of : FnScope ["sizes", "ahead", "behind", "cuts", "size"] ["sizes"] (defScope s_cuts_of) := ⟨rfl, rfl, rfl, by decide +kernel, rfl, by decide +kernel, by decide +kernel⟩
theorem fo_cuts_of {Y : Wo} (hh : Y.hd) : Fo Y 2 "cuts_of" ["sizes"] F_cuts_of := by
  have nd : (["sizes", "ahead", "behind", "cuts", "size"] : List Str).Nodup := sc_cuts_of.nd
  refine mkF (k := 1) (N := ["sizes", "ahead", "behind", "cuts", "size"]) hh 7 ds_cuts_of sc_cuts_of (fun _ _ _ _ _ _ us hl => match us, hl with | [_], _ => rfl) (by rintro ds r ⟨ss, rfl, rfl, hs, h2⟩; rfl) ?_
  rintro cdv A outer s H E ds r hr ⟨ss, rfl, rfl, hs, h2⟩
  have h40 := hs.len
  refine r_skip (t_is (t_lt (x_lenI hh.b_len (x_v 0)) x_int) (decide_eq_false (by omega))) ?_
  refine s_seq (s_set 1 nd x_int) ?_
  refine s_seq (s_set (d := .int (pr ss)) 2 nd (x_f (fo_c_product hh) hr (a_cons (x_v 0) a_nil) ⟨ss, rfl, rfl, hs⟩)) ?_
  refine s_seq (s_setN 3 nd (n_lst (ds := []) a_nil (by decide))) ?_
  refine s_seq (s_forN (ys := dInts (ss.take (ss.length - 1))) 4 nd (i_tup (x_is (x_slT (ds := dInts ss) (l := none) (h := some ((ss.length : Int) - 1)) (x_v 0) o_no (o_at (x_sub (x_lenI hh.b_len (x_v 0)) x_int))) (by rw [cutD_to ss (k := ss.length - 1) (by omega) (by omega)]))) (fun i => [.val (.tup (dInts ss)), .val (.int (pr (ss.take i))), .val (.int (pr (ss.drop i))), .own (.lst (dInts ((cutsL ss).take i))), .any]) ⟨.inr rfl, .inr rfl, .inr rfl, .inr rfl, .inl rfl, trivial⟩ (fun i d hi => ?_)) ?_
  · obtain ⟨hl, rfl⟩ := dInts_get hi
    have hl1 : i < ss.length - 1 := by have := hl; rw [List.length_take] at this; omega
    have hl2 : i < ss.length := by omega
    have e : (ss.take (ss.length - 1))[i] = ss[i] := List.getElem_take
    rw [e]
    have p := hs.get hl2
    refine s_seq (s_set 1 nd (x_mulS (x_v 1) (x_v 4) (hs.take i).sm (hs.getSm hl2))) ?_
    refine s_seq (s_set 2 nd (x_divS (x_v 2) (x_v 4) (by omega) (hs.getSm hl2))) ?_
    refine s_seq (s_app 3 (x_sub (x_add (x_v 1) (x_v 2)) x_int) rfl (.inl rfl) (by rw [dInts_len, List.length_take]; omega)) ?_
    have e1 : pr (ss.take i) * ss[i] = pr (ss.take (i + 1)) := (pr_take hl2).symm
    have e2 : pr (ss.drop i) / ss[i] = pr (ss.drop (i + 1)) := by rw [pr_drop hl2, Int.mul_ediv_cancel_left _ (by omega)]
    exact s_nil ⟨.inr rfl, .inr (by rw [e1]), .inr (by rw [e2]), .inr (by rw [cutsL_take hl1, ← dInts_app, e1, e2]; rfl), .inl rfl, trivial⟩
  · refine s_sub (ρ' := [.val (.tup (dInts ss)), .any, .any, .own (.lst (dInts (cutsL ss))), .any]) ⟨.inr rfl, .inl rfl, .inl rfl, .inr (by rw [dInts_len, List.length_take, List.take_of_length_le (by rw [cutsL_len]; omega)]), .inl rfl, trivial⟩ ?_
    exact r_ret (x_tupMF hh.b_tuple (n := 3) (.inl rfl)) sa
def leastI (ss : List Int) : Int := if ss.length < 2 then pr ss else minI (cutsL ss)
/-! ### least_cut -/
def F_least_cut (ds : List D) (r : Res) : Prop := ∃ ss : List Int, ds = [.tup (dInts ss)] ∧ r = .ok (.int (leastI ss)) ∧ SzB ss
theorem sc_least_cut : FnScope ["sizes"] ["sizes"] (defScope s_least_cut) := ⟨rfl, rfl, rfl, by decide +kernel, rfl, by decide +kernel, by decide +kernel⟩
theorem fo_least_cut {Y : Wo} (hh : Y.hd) : Fo Y 3 "least_cut" ["sizes"] F_least_cut := by
  have nd : (["sizes"] : List Str).Nodup := sc_least_cut.nd
  refine mkF (k := 2) (N := ["sizes"]) hh 8 ds_least_cut sc_least_cut (fun _ _ _ _ _ _ us hl => match us, hl with | [_], _ => rfl) (by rintro ds r ⟨ss, rfl, rfl, hs⟩; rfl) ?_
  rintro cdv A outer s H E ds r hr ⟨ss, rfl, rfl, hs⟩
  refine r_when (t_lt (x_lenI hh.b_len (x_v 0)) x_int) (fun hc => ⟨?_, rfl⟩) (fun hc => ?_)
  · refine r_ret (x_is (x_f (fo_c_product hh) hr (a_cons (x_v 0) a_nil) ⟨ss, rfl, rfl, hs⟩) ?_) sa
    unfold leastI
    rw [if_pos (by have := of_decide_eq_true hc; omega)]
  · have h2 := of_decide_eq_false hc
    have hne := cutsL_ne (ss := ss) (by omega)
    obtain ⟨c0, cs, hcs⟩ : ∃ c0 cs, cutsL ss = c0 :: cs := by
      cases h : cutsL ss with
      | nil => exact absurd h hne
      | cons a b => exact ⟨a, b, rfl⟩
    refine r_ret (x_is (x_minF (n := c0) (ns := cs) hr hh.b_min (x_is (x_f (fo_cuts_of hh) hr (a_cons (x_v 0) a_nil) ⟨ss, rfl, rfl, hs, by omega⟩) (by rw [hcs]))) ?_) sa
    unfold leastI
    rw [if_neg (by omega), hcs]; rfl
/-! ### cut_gap -/
def F_cut_gap (ds : List D) (r : Res) : Prop := ∃ ss : List Int, ds = [.tup (dInts ss)] ∧ r = .ok (.int ((gapI ss : Nat) + 1)) ∧ SzB ss ∧ 2 ≤ ss.length
theorem sc_cut_gap : FnScope ["sizes", "cuts"] ["sizes"] (defScope s_cut_gap) := ⟨rfl, rfl, rfl, by decide +kernel, rfl, by decide +kernel, by decide +kernel⟩
theorem fo_cut_gap {Y : Wo} (hh : Y.hd) : Fo Y 3 "cut_gap" ["sizes"] F_cut_gap := by
  have nd : (["sizes", "cuts"] : List Str).Nodup := sc_cut_gap.nd
  refine mkF (k := 2) (N := ["sizes", "cuts"]) hh 9 ds_cut_gap sc_cut_gap (fun _ _ _ _ _ _ us hl => match us, hl with | [_], _ => rfl) (by rintro ds r ⟨ss, rfl, rfl, hs, h2⟩; rfl) ?_
  rintro cdv A outer s H E ds r hr ⟨ss, rfl, rfl, hs, h2⟩
  have hne := cutsL_ne (ss := ss) (by omega)
  obtain ⟨c0, cs, hcs⟩ : ∃ c0 cs, cutsL ss = c0 :: cs := by
    cases h : cutsL ss with
    | nil => exact absurd h hne
    | cons a b => exact ⟨a, b, rfl⟩
  refine s_seq (s_set (d := .tpf (dInts (c0 :: cs))) 1 nd (x_is (x_f (fo_cuts_of hh) hr (a_cons (x_v 0) a_nil) ⟨ss, rfl, rfl, hs, by omega⟩) (by rw [hcs]))) ?_
  refine r_ret (x_is (x_add (x_idxF (x_v 1) (x_minF (n := c0) (ns := cs) hr hh.b_min (x_v 1)) (minOf_spec cs c0).1) x_int) ?_) sa
  unfold gapI
  rw [hcs]; rfl
def corOf : List Int → Cor
  | [] => .non
  | [s] => .one s
  | a :: b :: t => .msh (mshOf (a :: b :: t))
theorem corOf_2 {ss : List Int} (h : 2 ≤ ss.length) : corOf ss = .msh (mshOf ss) := by
  match ss, h with
  | _ :: _ :: _, _ => rfl
theorem corOf_sizes (ss : List Int) : (corOf ss).sizes = ss := by
  match ss with
  | [] => rfl
  | [s] => rfl
  | a :: b :: t =>
    show (a :: b :: t).take _ ++ ((a :: b :: t).drop _).reverse.reverse = _
    rw [List.reverse_reverse, List.take_append_drop]
theorem corOf_ok {ss : List Int} (h : SzB ss) : COk (corOf ss) := by
  refine ⟨by rw [corOf_sizes]; exact h, fun m hm => ?_⟩
  match ss, h, hm with
  | [], _, hm => cases hm
  | [s], _, hm => cases hm
  | a :: b :: t, h, hm =>
    have e : mshOf (a :: b :: t) = m := Cor.msh.inj hm
    have hg := gapI_lt (ss := a :: b :: t) (by simp)
    refine ⟨e ▸ mshOf_ok (by simp) h, ?_, ?_⟩
    · rw [← e]
      intro z
      have : ((a :: b :: t).take (gapI (a :: b :: t) + 1)).length = 0 := by rw [show (a :: b :: t).take (gapI (a :: b :: t) + 1) = [] from z]; rfl
      rw [List.length_take] at this
      simp only [List.length_cons] at this hg
      omega
    · rw [← e]
      intro z
      have : ((a :: b :: t).drop (gapI (a :: b :: t) + 1)).reverse.length = 0 := by rw [show ((a :: b :: t).drop (gapI (a :: b :: t) + 1)).reverse = [] from z]; rfl
      rw [List.length_reverse, List.length_drop] at this
      simp only [List.length_cons] at this hg
      omega
theorem corOf_many {ss : List Int} (h : SzB ss) : (corOf ss).many = leastI ss := by
  match ss, h with
  | [], _ => rfl
  | [s], _ => show s = s * 1; rw [Int.mul_one]
  | a :: b :: t, h =>
    unfold leastI
    rw [if_neg (by simp only [List.length_cons]; omega), ← gapI_cut (by simp)]
    show (mshOf (a :: b :: t)).L + (mshOf (a :: b :: t)).R - 1 = _
    have : (mshOf (a :: b :: t)).R = pr ((a :: b :: t).drop (gapI (a :: b :: t) + 1)) := pr_rev _
    rw [this]; rfl
/-! ### d_split -/
def F_d_split (ds : List D) (r : Res) : Prop := ∃ ss : List Int, ds = [.tup (dInts ss)] ∧ r = .ok (corOf ss).hD ∧ SzB ss
theorem sc_d_split : FnScope ["inner", "gap", "lefts", "rights"] ["inner"] (defScope s_d_split) := ⟨rfl, rfl, rfl, by decide +kernel, rfl, by decide +kernel, by decide +kernel⟩
theorem fo_d_split {Y : Wo} (hh : Y.hd) : Fo Y 4 "d_split" ["inner"] F_d_split := by
  have nd : (["inner", "gap", "lefts", "rights"] : List Str).Nodup := sc_d_split.nd
  refine mkF (k := 3) (N := ["inner", "gap", "lefts", "rights"]) hh 14 ds_d_split sc_d_split (fun _ _ _ _ _ _ us hl => match us, hl with | [_], _ => rfl) (by rintro ds r ⟨ss, rfl, rfl, hs⟩; rfl) ?_
  rintro cdv A outer s H E ds r hr ⟨ss, rfl, rfl, hs⟩
  refine r_when (t_lt (x_lenI hh.b_len (x_v 0)) x_int) (fun hc => ⟨?_, rfl⟩) (fun hc => ?_)
  · have hl := of_decide_eq_true hc
    refine r_ret (x_is (x_tup (ds := []) a_nil (by decide)) ?_) sa
    match ss, hl with
    | [], _ => rfl
    | [s], _ => rfl
    | a :: b :: t, hl => simp only [List.length_cons] at hl; omega
  have h2 : 2 ≤ ss.length := by have := of_decide_eq_false hc; omega
  have hg := gapI_lt h2
  have hm := mshOf_ok h2 hs
  rw [corOf_2 h2]
  refine s_seq (s_set (d := .int ((gapI ss : Nat) + 1)) 1 nd (x_f (fo_cut_gap hh) hr (a_cons (x_v 0) a_nil) ⟨ss, rfl, rfl, hs, h2⟩)) ?_
  refine s_seq (s_set (d := .tup (dInts (mshOf ss).l)) 2 nd (x_is (x_slT (x_v 0) o_no (o_at (x_v 1))) (by rw [cutD_to ss (k := gapI ss + 1) (by omega) (by omega)]; rfl))) ?_
  refine s_seq (s_set (d := .tup (dInts (mshOf ss).r)) 3 nd (x_is (x_revT (x_slT (x_v 0) (o_at (x_v 1)) o_no)) (by rw [cutD_from ss (k := gapI ss + 1) (by omega) (by omega), dInts_rev]; rfl))) ?_
  have ea : (mshOf ss).a = ss[gapI ss] := getD_get (by omega)
  have eb : (mshOf ss).b = ss[gapI ss + 1] := getD_get (by omega)
  refine r_ret (x_tup (a_cons (x_v 2) (a_cons (x_v 3) (a_cons (x_f (fo_d_product hh) hr (a_cons (x_v 2) a_nil) ⟨_, rfl, rfl, hm.zl⟩) (a_cons (x_f (fo_d_product hh) hr (a_cons (x_v 3) a_nil) ⟨_, rfl, rfl, hm.zr⟩) (a_cons (x_is (x_ixI (n := gapI ss) (x_v 0) (x_sub (x_v 1) x_int) (by omega) (by omega)) (by rw [← ea])) (a_cons (x_is (x_ixI (n := gapI ss + 1) (x_v 0) (x_v 1) (by omega) (by omega)) (by rw [← eb])) a_nil)))))) (Nat.le_of_ble_eq_true rfl)) sa
/-- a nest -/
def nestD (o i : List Int) : D := .tup [.tup (dInts o), .tup (dInts i)]
theorem nestD_it (o i : List Int) : seqD (nestD o i) = some [.tup (dInts o), .tup (dInts i)] := rfl
theorem x_core {X : Cx} {ρ : List Sl} {e : Expr} {i : List Int} (h : PE X e (tD ρ (.tup (dInts i)))) : PE X e (tD ρ (.tup (dInts (corOf i).sizes))) := x_is h (by rw [corOf_sizes])
/-! ### d_nest_many -/
def F_d_nest_many (ds : List D) (r : Res) : Prop := ∃ o i : List Int, ds = [nestD o i, (corOf i).hD] ∧ r = .ok (.int (pr o * (corOf i).many)) ∧ SzB o ∧ SzB i ∧ Sm (corOf i).many
theorem sc_d_nest_many : FnScope ["nest", "halves"] ["nest", "halves"] (defScope s_d_nest_many) := ⟨rfl, rfl, rfl, by decide +kernel, rfl, by decide +kernel, by decide +kernel⟩
theorem fo_d_nest_many {Y : Wo} (hh : Y.hd) : Fo Y 2 "d_nest_many" ["nest", "halves"] F_d_nest_many := by
  have nd : (["nest", "halves"] : List Str).Nodup := sc_d_nest_many.nd
  refine mkF (k := 1) (N := ["nest", "halves"]) hh 20 ds_d_nest_many sc_d_nest_many (fun _ _ _ _ _ _ us hl => match us, hl with | [_, _], _ => rfl) (by rintro ds r ⟨o, i, rfl, rfl, ho, hi, hm⟩; rfl) ?_
  rintro cdv A outer s H E ds r hr ⟨o, i, rfl, rfl, ho, hi, hm⟩
  refine r_ret (x_mulS (x_f (fo_d_product hh) hr (a_cons (x_ix (x_v 0) x_int (nestD_it o i) rfl) a_nil) ⟨o, rfl, rfl, ho⟩) (x_f (fo_d_core_many hh) hr (a_cons (x_core (x_ix (x_v 0) x_int (nestD_it o i) rfl)) (a_cons (x_v 1) a_nil)) ⟨_, rfl, rfl, corOf_ok hi⟩) ho.sm hm) sa
/-! ### core_row -/
def F_core_row (ds : List D) (r : Res) : Prop := ∃ (ss : List Int) (st k : Int), ds = [.tup (dInts ss), .int st] ∧ r = .ok (.tup (dInts ((corOf ss).vals st k))) ∧ SzB ss ∧ 1 ≤ ss.length ∧ 0 ≤ st ∧ st < (corOf ss).many ∧ (corOf ss).Left st k
theorem sc_core_row : FnScope ["inner", "stage", "halves"] ["inner", "stage"] (defScope s_core_row) := ⟨rfl, rfl, rfl, by decide +kernel, rfl, by decide +kernel, by decide +kernel⟩
theorem fo_core_row {Y : Wo} (hh : Y.hd) : Fo Y 5 "core_row" ["inner", "stage"] F_core_row := by
  have nd : (["inner", "stage", "halves"] : List Str).Nodup := sc_core_row.nd
  refine mkF (k := 4) (N := ["inner", "stage", "halves"]) hh 23 ds_core_row sc_core_row (fun _ _ _ _ _ _ us hl => match us, hl with | [_, _], _ => rfl) (by rintro ds r ⟨ss, st, k, rfl, rfl, hs, h1, h0, hlt, hk⟩; rfl) ?_
  rintro cdv A outer s H E ds r hr ⟨ss, st, k, rfl, rfl, hs, h1, h0, hlt, hk⟩
  refine r_skip (t_is (t_eq (x_lenI hh.b_len (x_v 0)) x_int rfl) (decide_eq_false (by omega))) ?_
  refine s_seq (s_set (d := (corOf ss).hD) 2 nd (x_f (fo_d_split hh) hr (a_cons (x_v 0) a_nil) ⟨ss, rfl, rfl, hs⟩)) ?_
  refine r_skip (t_not (t_val (c := true) (x_f (fo_d_is_below hh) hr (a_cons (x_v 1) (a_cons (x_f (fo_d_core_many hh) hr (a_cons (x_core (x_v 0)) (a_cons (x_v 2) a_nil)) ⟨_, rfl, rfl, corOf_ok hs⟩) a_nil)) ⟨st, _, rfl, rfl, h0, hlt⟩))) ?_
  exact r_ret (x_f (fo_d_core_values hh) hr (a_cons (x_core (x_v 0)) (a_cons (x_v 2) (a_cons (x_v 1) a_nil))) ⟨_, st, k, rfl, rfl, corOf_ok hs, h0, hk⟩) sa
/-! ### d_mesh_halves -/
def F_d_mesh_halves (ds : List D) (r : Res) : Prop := ∃ ss : List Int, ds = [.tup (dInts ss)] ∧ r = .ok (corOf ss).hD ∧ SzB ss ∧ 2 ≤ ss.length
theorem sc_d_mesh_halves : FnScope ["inner"] ["inner"] (defScope s_d_mesh_halves) := ⟨rfl, rfl, rfl, by decide +kernel, rfl, by decide +kernel, by decide +kernel⟩
theorem fo_d_mesh_halves {Y : Wo} (hh : Y.hd) : Fo Y 5 "d_mesh_halves" ["inner"] F_d_mesh_halves := by
  have nd : (["inner"] : List Str).Nodup := sc_d_mesh_halves.nd
  refine mkF (k := 4) (N := ["inner"]) hh 24 ds_d_mesh_halves sc_d_mesh_halves (fun _ _ _ _ _ _ us hl => match us, hl with | [_], _ => rfl) (by rintro ds r ⟨ss, rfl, rfl, hs, h2⟩; rfl) ?_
  rintro cdv A outer s H E ds r hr ⟨ss, rfl, rfl, hs, h2⟩
  refine r_skip (t_is (t_lt (x_lenI hh.b_len (x_v 0)) x_int) (decide_eq_false (by omega))) ?_
  exact r_ret (x_f (fo_d_split hh) hr (a_cons (x_v 0) a_nil) ⟨ss, rfl, rfl, hs⟩) sa
/-! ### halves_of -/
def F_halves_of (ds : List D) (r : Res) : Prop := ∃ ss : List Int, ds = [.tup (dInts ss)] ∧ r = .ok (.tup [.int (mshOf ss).L, .int (mshOf ss).R, .int (mshOf ss).a, .int (mshOf ss).b]) ∧ SzB ss ∧ 2 ≤ ss.length
theorem sc_halves_of : FnScope ["inner"] ["inner"] (defScope s_halves_of) := ⟨rfl, rfl, rfl, by decide +kernel, rfl, by decide +kernel, by decide +kernel⟩
theorem fo_halves_of {Y : Wo} (hh : Y.hd) : Fo Y 6 "halves_of" ["inner"] F_halves_of := by
  have nd : (["inner"] : List Str).Nodup := sc_halves_of.nd
  refine mkF (k := 5) (N := ["inner"]) hh 25 ds_halves_of sc_halves_of (fun _ _ _ _ _ _ us hl => match us, hl with | [_], _ => rfl) (by rintro ds r ⟨ss, rfl, rfl, hs, h2⟩; rfl) ?_
  rintro cdv A outer s H E ds r hr ⟨ss, rfl, rfl, hs, h2⟩
  refine r_ret (x_is (x_slT (ds := [.tup (dInts (mshOf ss).l), .tup (dInts (mshOf ss).r), .int (mshOf ss).L, .int (mshOf ss).R, .int (mshOf ss).a, .int (mshOf ss).b]) (l := some 2) (h := none) (x_is (x_f (fo_d_mesh_halves hh) hr (a_cons (x_v 0) a_nil) ⟨ss, rfl, rfl, hs, h2⟩) (by rw [corOf_2 h2]; rfl)) (o_at x_int) o_no) rfl) sa
/-! ### c_is_sizes -/
def F_c_is_sizes (ds : List D) (r : Res) : Prop := ∃ ss : List Int, ds = [.tup (dInts ss)] ∧ r = .ok (.bl true) ∧ SzB ss
theorem sc_c_is_sizes : FnScope ["thing"] ["thing"] (defScope s_c_is_sizes) := ⟨rfl, rfl, rfl, by decide +kernel, rfl, by decide +kernel, by decide +kernel⟩
theorem fo_c_is_sizes {Y : Wo} (hh : Y.hd) : Fo Y 3 "c_is_sizes" ["thing"] F_c_is_sizes := by
  have nd : (["thing"] : List Str).Nodup := sc_c_is_sizes.nd
  refine mkF (k := 2) (N := ["thing"]) hh 26 ds_c_is_sizes sc_c_is_sizes (fun _ _ _ _ _ _ us hl => match us, hl with | [_], _ => rfl) (by rintro ds r ⟨ss, rfl, rfl, hs⟩; rfl) ?_
  rintro cdv A outer s H E ds r hr ⟨ss, rfl, rfl, hs⟩
  have h40 := hs.len
  refine r_ret (x_andT (x_isi (t := "tuple") (T := "tuple") rfl (by decide +kernel) hh.b_isinstance hh.b_tuple (by decide +kernel) (x_v 0)) (x_one ?_)) sa
  by_cases h : ss = []
  · subst h
    exact x_orT (x_is (x_eq (x_lenI (ns := []) hh.b_len (x_v 0)) x_int rfl) rfl) pe_nevr
  · have : ss.length ≠ 0 := fun z => h (List.length_eq_zero_iff.mp z)
    exact x_orF (x_is (x_eq (x_lenI hh.b_len (x_v 0)) x_int rfl) (by rw [decide_eq_false (by omega)])) (x_one (x_f (fo_is_dials hh) hr (a_cons (x_v 0) a_nil) ⟨ss, rfl, rfl, h, hs.two, by omega⟩))
/-! ### is_nest -/
def F_is_nest (ds : List D) (r : Res) : Prop := ∃ o i : List Int, ds = [nestD o i] ∧ r = .ok (.bl true) ∧ SzB o ∧ SzB i ∧ (o ≠ [] ∨ i ≠ [])
theorem sc_is_nest : FnScope ["thing"] ["thing"] (defScope s_is_nest) := ⟨rfl, rfl, rfl, by decide +kernel, rfl, by decide +kernel, by decide +kernel⟩
theorem fo_is_nest {Y : Wo} (hh : Y.hd) : Fo Y 4 "is_nest" ["thing"] F_is_nest := by
  have nd : (["thing"] : List Str).Nodup := sc_is_nest.nd
  refine mkF (k := 3) (N := ["thing"]) hh 27 ds_is_nest sc_is_nest (fun _ _ _ _ _ _ us hl => match us, hl with | [_], _ => rfl) (by rintro ds r ⟨o, i, rfl, rfl, ho, hi, hne⟩; rfl) ?_
  rintro cdv A outer s H E ds r hr ⟨o, i, rfl, rfl, ho, hi, hne⟩
  have hp : 0 < o.length + i.length := by
    rcases hne with h | h
    · have := List.length_pos_iff.mpr h; omega
    · have := List.length_pos_iff.mpr h; omega
  refine r_skip (t_is (t_W (w_or (c := false) (t_not (t_val (c := true) (x_isi (t := "tuple") (T := "tuple") rfl (by decide +kernel) hh.b_isinstance hh.b_tuple (by decide +kernel) (x_v 0)))) fun _ => w_or1 (t_ne (x_len (ds := [.tup (dInts o), .tup (dInts i)]) rfl hh.b_len (x_v 0)) x_int rfl))) rfl) ?_
  refine r_ret (x_andT (x_f (fo_c_is_sizes hh) hr (a_cons (x_ix (x_v 0) x_int (nestD_it o i) rfl) a_nil) ⟨o, rfl, rfl, ho⟩) (x_andT (x_f (fo_c_is_sizes hh) hr (a_cons (x_ix (x_v 0) x_int (nestD_it o i) rfl) a_nil) ⟨i, rfl, rfl, hi⟩) (x_one (x_is (x_gt (x_add (x_lenI hh.b_len (x_ix (x_v 0) x_int (nestD_it o i) rfl)) (x_lenI hh.b_len (x_ix (x_v 0) x_int (nestD_it o i) rfl))) x_int) (by rw [decide_eq_true (by omega)]))))) sa
/-! ### nest_dials -/
def F_nest_dials (ds : List D) (r : Res) : Prop := ∃ o i : List Int, ds = [nestD o i] ∧ r = .ok (.tup (dInts (o ++ i))) ∧ SzB o ∧ SzB i
theorem sc_nest_dials : FnScope ["nest"] ["nest"] (defScope s_nest_dials) := ⟨rfl, rfl, rfl, by decide +kernel, rfl, by decide +kernel, by decide +kernel⟩
theorem fo_nest_dials {Y : Wo} (hh : Y.hd) : Fo Y 1 "nest_dials" ["nest"] F_nest_dials := by
  have nd : (["nest"] : List Str).Nodup := sc_nest_dials.nd
  refine mkF (k := 0) (N := ["nest"]) hh 28 ds_nest_dials sc_nest_dials (fun _ _ _ _ _ _ us hl => match us, hl with | [_], _ => rfl) (by rintro ds r ⟨o, i, rfl, rfl, ho, hi⟩; rfl) ?_
  rintro cdv A outer s H E ds r hr ⟨o, i, rfl, rfl, ho, hi⟩
  have h1 := ho.len
  have h2 := hi.len
  exact r_ret (x_is (x_catT (x_ix (x_v 0) x_int (nestD_it o i) rfl) (x_ix (x_v 0) x_int (nestD_it o i) rfl) (by rw [dInts_len, dInts_len]; omega)) (by rw [dInts_app2])) sa
def tourI (n m : Nat) : List Int := rgI 0 n ++ rgI n m ++ (rgI 0 n).reverse
/-! ### nest_tour -/
def F_nest_tour (ds : List D) (r : Res) : Prop := ∃ o i : List Int, ds = [nestD o i] ∧ r = .ok (.tup (dInts (tourI o.length i.length))) ∧ SzB o ∧ SzB i
theorem sc_nest_tour : FnScope ["nest", "depth", "outer", "inner"] ["nest"] (defScope s_nest_tour) := ⟨rfl, rfl, rfl, by decide +kernel, rfl, by decide +kernel, by decide +kernel⟩
theorem fo_nest_tour {Y : Wo} (hh : Y.hd) : Fo Y 1 "nest_tour" ["nest"] F_nest_tour := by
  have nd : (["nest", "depth", "outer", "inner"] : List Str).Nodup := sc_nest_tour.nd
  refine mkF (k := 0) (N := ["nest", "depth", "outer", "inner"]) hh 29 ds_nest_tour sc_nest_tour (fun _ _ _ _ _ _ us hl => match us, hl with | [_], _ => rfl) (by rintro ds r ⟨o, i, rfl, rfl, ho, hi⟩; rfl) ?_
  rintro cdv A outer s H E ds r hr ⟨o, i, rfl, rfl, ho, hi⟩
  have h1 := ho.len
  have h2 := hi.len
  refine s_seq (s_set (d := .int o.length) 1 nd (x_lenI hh.b_len (x_ix (x_v 0) x_int (nestD_it o i) rfl))) ?_
  refine s_seq (s_set (d := .lst (dInts (rgI 0 o.length))) 2 nd (x_is (x_lstRg hh.b_list (rg_1 hh.b_range (x_v 1)) (by omega)) (by rw [Int.sub_zero, Int.toNat_natCast]))) ?_
  refine s_seq (s_set (d := .lst (dInts (rgI o.length i.length))) 3 nd (x_is (x_lstRg (n := o.length) (m := o.length + i.length) hh.b_list (rg_2 hh.b_range (x_v 1) (x_add (x_v 1) (x_lenI hh.b_len (x_ix (x_v 0) x_int (nestD_it o i) rfl)))) (by omega)) (by rw [show (((o.length : Int) + (i.length : Int)) - (o.length : Int)).toNat = i.length by omega]))) ?_
  refine r_ret (x_is (x_tupL hh.b_tuple (x_catL (x_catL (x_v 2) (x_v 3) ?_) (x_revL (x_v 2)) ?_)) ?_) sa
  · rw [dInts_len, dInts_len, rgI_len, rgI_len]; omega
  · rw [List.length_append, List.length_reverse, dInts_len, dInts_len, rgI_len, rgI_len]; omega
  · rw [dInts_rev, dInts_app2, dInts_app2]; rfl
/-! ### nest_held -/
def F_nest_held (ds : List D) (r : Res) : Prop := ∃ o i : List Int, ds = [nestD o i] ∧ r = .ok (.int (pr o * (corOf i).many)) ∧ SzB o ∧ SzB i ∧ Sm (corOf i).many
theorem sc_nest_held : FnScope ["nest"] ["nest"] (defScope s_nest_held) := ⟨rfl, rfl, rfl, by decide +kernel, rfl, by decide +kernel, by decide +kernel⟩
theorem fo_nest_held {Y : Wo} (hh : Y.hd) : Fo Y 4 "nest_held" ["nest"] F_nest_held := by
  have nd : (["nest"] : List Str).Nodup := sc_nest_held.nd
  refine mkF (k := 3) (N := ["nest"]) hh 30 ds_nest_held sc_nest_held (fun _ _ _ _ _ _ us hl => match us, hl with | [_], _ => rfl) (by rintro ds r ⟨o, i, rfl, rfl, ho, hi, hm⟩; rfl) ?_
  rintro cdv A outer s H E ds r hr ⟨o, i, rfl, rfl, ho, hi, hm⟩
  have e := corOf_many hi
  exact r_ret (x_is (x_mulS (x_f (fo_c_product hh) hr (a_cons (x_ix (x_v 0) x_int (nestD_it o i) rfl) a_nil) ⟨o, rfl, rfl, ho⟩) (x_f (fo_least_cut hh) hr (a_cons (x_ix (x_v 0) x_int (nestD_it o i) rfl) a_nil) ⟨i, rfl, rfl, hi⟩) ho.sm (e ▸ hm)) (by rw [e])) sa
end Sd

namespace Sd
theorem idx_le {a : Int} : ∀ {l : List Int} {k : Nat}, l[k]? = some a → List.idxOf a l ≤ k
  | [], _, h => by simp at h
  | b :: l, 0, h => by
    have : b = a := by simpa using h
    subst this
    simp
  | b :: l, k + 1, h => by
    rw [List.idxOf_cons]
    cases hb : (b == a) with
    | true => simp
    | false =>
      have := idx_le (l := l) (k := k) (by simpa using h)
      simp
      omega
theorem pr_split {ss : List Int} (h : ∀ n ∈ ss, 2 ≤ n) (j : Nat) : pr ss / pr (ss.take j) = pr (ss.drop j) := by
  have e : pr ss = pr (ss.take j) * pr (ss.drop j) := by rw [← pr_app, List.take_append_drop]
  have p : 0 < pr (ss.take j) := pr_pos fun n hn => h n (List.mem_of_mem_take hn)
  rw [e, Int.mul_ediv_cancel_left _ (by omega)]
theorem besI_spec {ss : List Int} (h2 : 2 ≤ ss.length) (hs : SzB ss) : ∀ j, 1 ≤ j → j ≤ ss.length - 1 → ∃ k, k < j ∧ besI ss j = ⟨(k : Int) + 1, pr (ss.take (k + 1)), pr (ss.drop (k + 1)), ss.getD k 0, ss.getD (k + 1) 0⟩ ∧ (∀ i, i < j → cutAt ss k ≤ cutAt ss i) ∧ ∀ i, i < k → cutAt ss k < cutAt ss i
  | 0, h, _ => by omega
  | j + 1, _, hj => by
    have es := pr_split hs.two (j + 1)
    by_cases h0 : j = 0
    · subst h0
      have hL : pr (ss.take 1) = ss[0] := by rw [pr_take (by omega)]; simp [pr]
      have hR : pr (ss.drop 1) = ss[1] * pr (ss.drop 2) := pr_drop (by omega)
      have l2 := hs.two ss[0] (List.getElem_mem _)
      have r2 := hs.two ss[1] (List.getElem_mem _)
      have rp : 0 < pr (ss.drop 2) := (hs.drop 2).pos
      have r2' : 2 ≤ pr (ss.drop 1) := by
        rw [hR]
        have := Int.mul_le_mul_of_nonneg_left (show 1 ≤ pr (ss.drop 2) by omega) (show 0 ≤ ss[1] by omega)
        omega
      have eW : pr ss = pr (ss.take 1) * pr (ss.drop 1) := by rw [← pr_app, List.take_append_drop]
      have c : pr (ss.take (0 + 1)) + pr ss / pr (ss.take (0 + 1)) < (besI ss 0).L + (besI ss 0).R := by
        rw [es]
        show pr (ss.take 1) + pr (ss.drop 1) < pr ss + pr ss
        rw [eW]
        have p1 := Int.mul_le_mul_of_nonneg_left (show 1 ≤ pr (ss.drop 1) by omega) (show 0 ≤ pr (ss.take 1) by omega)
        have p2 := Int.mul_le_mul_of_nonneg_right (show 2 ≤ pr (ss.take 1) by omega) (show 0 ≤ pr (ss.drop 1) by omega)
        omega
      refine ⟨0, by omega, ?_, fun i hi => ?_, fun i hi => by omega⟩
      · show (if _ < _ then _ else _) = _
        rw [if_pos c, es]; rfl
      · have : i = 0 := by omega
        subst this; exact Int.le_refl _
    · obtain ⟨k, hk, ek, k1, k2⟩ := besI_spec h2 hs j (by omega) (by omega)
      have eb : (besI ss j).L + (besI ss j).R = cutAt ss k + 1 := by rw [ek]; unfold cutAt; dsimp only; omega
      have ec : pr (ss.take (j + 1)) + pr ss / pr (ss.take (j + 1)) = cutAt ss j + 1 := by rw [es]; unfold cutAt; omega
      by_cases hc : pr (ss.take (j + 1)) + pr ss / pr (ss.take (j + 1)) < (besI ss j).L + (besI ss j).R
      · refine ⟨j, by omega, ?_, fun i hi => ?_, fun i hi => ?_⟩
        · show (if _ < _ then _ else _) = _
          rw [if_pos hc, es]
          congr 1
        · by_cases e : i = j
          · subst e; exact Int.le_refl _
          · have := k1 i (by omega); omega
        · have := k1 i (by omega); omega
      · refine ⟨k, by omega, ?_, fun i hi => ?_, k2⟩
        · show (if _ < _ then _ else _) = _
          rw [if_neg hc]; exact ek
        · by_cases e : i = j
          · subst e; omega
          · exact k1 i (by omega)
/-- the gap, for cores of any many dials -/
def gOfI (ss : List Int) : Nat := if ss.length < 2 then ss.length else gapI ss + 1
def aOfI (ss : List Int) : Int := if ss.length < 2 then 2 else (mshOf ss).a
def bOfI (ss : List Int) : Int := if ss.length < 2 then 2 else (mshOf ss).b
theorem halfI_eq {ss : List Int} (hs : SzB ss) : halfI ss = ⟨gOfI ss, pr (ss.take (gOfI ss)), pr (ss.drop (gOfI ss)), aOfI ss, bOfI ss⟩ := by
  unfold halfI gOfI aOfI bOfI
  by_cases h : ss.length < 2
  · rw [if_pos h, if_pos h, if_pos h, if_pos h, List.take_length, List.drop_length]; rfl
  · rw [if_neg h, if_neg h, if_neg h, if_neg h]
    have h2 : 2 ≤ ss.length := by omega
    obtain ⟨k, hk, ek, k1, k2⟩ := besI_spec h2 hs (ss.length - 1) (by omega) (Nat.le_refl _)
    have gl := gapI_lt h2
    have ge : gapI ss = k := by
      have a1 := gapI_le h2 hk
      have a2 := k1 _ gl
      have a3 : gapI ss ≤ k := by
        refine idx_le ?_
        rw [cutsL_get hk, ← gapI_cut h2]
        congr 1; omega
      by_cases e : gapI ss < k
      · have := k2 _ e; omega
      · omega
    rw [ek, ge]
    congr 1
    · show ss.getD k 0 = ss.getD (gapI ss) 0; rw [ge]
    · show ss.getD (k + 1) 0 = ss.getD (gapI ss + 1) 0; rw [ge]
end Sd

namespace Sd
open PySem PySem.Spec L2
open PyProof.Rows (envOfC)

/-! ### the values of outer dials, of inner ones turned on -/
def ovAt (l : List Int) (c : Int) (i : Nat) : Int := (restAt l c i % l.getD i 0 - restAt l c (i + 1)) % l.getD i 0
def ovR (l : List Int) (c : Int) : List Int := (List.range l.length).map (ovAt l c)
theorem ovR_len {l : List Int} {c : Int} : (ovR l c).length = l.length := by simp [ovR]
theorem ovR_get {l : List Int} {c : Int} {i : Nat} (h : i < l.length) : (ovR l c)[i]? = some (ovAt l c i) := by unfold ovR; rw [List.getElem?_map, List.getElem?_range h]; rfl
theorem ovR_take {l : List Int} {c : Int} {i : Nat} (h : i < l.length) : (ovR l c).take (i + 1) = (ovR l c).take i ++ [ovAt l c i] := by
  have hl : i < (ovR l c).length := by rw [ovR_len]; exact h
  rw [List.take_succ_eq_append_getElem hl]
  have := ovR_get (c := c) h
  rw [List.getElem?_eq_getElem hl] at this
  rw [Option.some.inj this]
def turnL (base steps inner : List Int) (c : Int) : List Int := (List.range inner.length).map fun i => (base.getD i 0 + c * steps.getD i 0) % inner.getD i 0
theorem turnL_len {b s n : List Int} {c : Int} : (turnL b s n c).length = n.length := by simp [turnL]
theorem dig_lt {s c : Int} (h : 0 < s) : 0 ≤ dig s c ∧ dig s c < s := by
  have h1 := Int.emod_nonneg c (show s ≠ 0 by omega)
  have h2 := Int.emod_lt_of_pos c h
  unfold dig
  split <;> omega
theorem counted_get {ss : List Int} {c : Int} {i : Nat} {v : Int} (h : (counted ss c)[i]? = some v) : ∃ (hi : i < ss.length) (c' : Int), v = dig ss[i] c' := by
  have hi : i < ss.length := by have := (List.getElem?_eq_some_iff.mp h).1; rwa [counted_len] at this
  unfold counted at h
  rw [List.getElem?_reverse (by rw [cntR_len, List.length_reverse]; exact hi), cntR_len, List.length_reverse, cntR_get (by rw [List.length_reverse]; omega)] at h
  refine ⟨hi, restAt ss.reverse c (ss.length - 1 - i), ?_⟩
  rw [← Option.some.inj h, List.getElem_reverse]
  congr 2
  omega
theorem counted_row {ss : List Int} (h : ∀ s ∈ ss, 2 ≤ s) (c : Int) : RowOk ss (counted ss c) := ⟨counted_len, fun i h1 h2 => by
  obtain ⟨hi, c', e⟩ := counted_get (List.getElem?_eq_getElem h2)
  rw [e]
  exact dig_lt (by have := h ss[i] (List.getElem_mem hi); omega)⟩
theorem rowOk_rev {ss vs : List Int} (h : RowOk ss vs) : RowOk ss.reverse vs.reverse := ⟨by rw [List.length_reverse, List.length_reverse, h.1], fun i h1 h2 => by
  rw [List.getElem_reverse, List.getElem_reverse]
  have hl := h.1
  rw [List.length_reverse] at h1 h2
  have := h.2 (ss.length - 1 - i) (by omega) (by omega)
  have e : vs[vs.length - 1 - i] = vs[ss.length - 1 - i] := by congr 1; omega
  rw [e]; exact this⟩
theorem rowOk_app {a b c d : List Int} (h : RowOk a b) (k : RowOk c d) : RowOk (a ++ c) (b ++ d) := ⟨by rw [List.length_append, List.length_append, h.1, k.1], fun i h1 h2 => by
  have hl := h.1
  by_cases hi : i < a.length
  · rw [List.getElem_append_left hi, List.getElem_append_left (by omega)]
    exact h.2 i hi (by omega)
  · rw [List.getElem_append_right (by omega), List.getElem_append_right (by omega)]
    rw [List.length_append] at h1 h2
    have := k.2 (i - a.length) (by omega) (by omega)
    have e : d[i - b.length] = d[i - a.length] := by congr 1; omega
    rw [e]; exact this⟩
theorem Cor.vals_row {c : Cor} (hc : COk c) {st k : Int} (h0 : 0 ≤ st) (h1 : st < c.many) : RowOk c.sizes (c.vals st k) := by
  cases c with
  | non => exact ⟨rfl, fun i h1 _ => by simp [Cor.sizes] at h1⟩
  | one s =>
    refine ⟨rfl, fun i h2 h3 => ?_⟩
    have : i = 0 := by have h2 : i < 1 := h2; omega
    subst this
    exact ⟨h0, h1⟩
  | msh m =>
    obtain ⟨hm, _⟩ := hc.ms m rfl
    exact rowOk_app (counted_row hm.zl.two k) (rowOk_rev (counted_row hm.zr.two (st - k)))
def nestVals (o i : List Int) (st k kl : Int) : List Int := (ovR o.reverse (st / (corOf i).many)).reverse ++ turnL ((corOf i).vals (st % (corOf i).many) k) ((corOf i).vals ((corOf i).many - 1) kl) i (st / (corOf i).many)
/-! ### d_nest_values -/
def F_d_nest_values (ds : List D) (r : Res) : Prop := ∃ (o i : List Int) (st k kl : Int), ds = [nestD o i, (corOf i).hD, .int st] ∧ r = .ok (.tup (dInts (nestVals o i st k kl))) ∧ SzB o ∧ SzB i ∧ 0 ≤ st ∧ Sm st ∧ Sm (corOf i).many ∧ (corOf i).Left (st % (corOf i).many) k ∧ (corOf i).Left ((corOf i).many - 1) kl
theorem sc_d_nest_values : FnScope ["nest", "halves", "stage", "outer", "inner", "held", "copies", "lead", "values", "size", "value", "base", "steps", "shifted", "step"] ["nest", "halves", "stage"] (defScope s_d_nest_values) := ⟨rfl, rfl, rfl, by decide +kernel, rfl, by decide +kernel, by decide +kernel⟩
theorem fo_d_nest_values {Y : Wo} (hh : Y.hd) : Fo Y 4 "d_nest_values" ["nest", "halves", "stage"] F_d_nest_values := by
  have nd : (["nest", "halves", "stage", "outer", "inner", "held", "copies", "lead", "values", "size", "value", "base", "steps", "shifted", "step"] : List Str).Nodup := sc_d_nest_values.nd
  refine mkF (k := 3) (N := ["nest", "halves", "stage", "outer", "inner", "held", "copies", "lead", "values", "size", "value", "base", "steps", "shifted", "step"]) hh 21 ds_d_nest_values sc_d_nest_values (fun _ _ _ _ _ _ us hl => match us, hl with | [_, _, _], _ => rfl) (by rintro ds r ⟨o, i, st, k, kl, rfl, rfl, ho, hi, h0, hS, hM, hk, hkl⟩; rfl) ?_
  rintro cdv A outer s H E ds r hr ⟨o, i, st, k, kl, rfl, rfl, ho, hi, h0, hS, hM, hk, hkl⟩
  have hc := corOf_ok hi
  have hp := Cor.many_pos hc
  have l1 := ho.len
  have l2 := hi.len
  have hc0 : 0 ≤ st / (corOf i).many := Int.ediv_nonneg h0 (by omega)
  have hcS : Sm (st / (corOf i).many) := hS.le hc0 (Int.ediv_le_self _ h0)
  refine s_seq (s_asg2 (a := .tup (dInts o)) (b := .tup (dInts i)) 3 4 nd (x_v 0)) ?_
  refine s_seq (s_set (d := .int (corOf i).many) 5 nd (x_f (fo_d_core_many hh) hr (a_cons (x_core (x_v 4)) (a_cons (x_v 1) a_nil)) ⟨_, rfl, rfl, hc⟩)) ?_
  refine s_seq (s_set 6 nd (x_divS (x_v 2) (x_v 5) hp hM)) ?_
  refine s_seq (s_set 7 nd (x_v 6)) ?_
  refine s_seq (s_setN 8 nd (n_lst (ds := []) a_nil (by decide))) ?_
  have hr2 : ∀ j (h : j < o.reverse.length), 2 ≤ o.reverse[j] ∧ Sm o.reverse[j] := fun j h => by
    have hm : o.reverse[j] ∈ o := List.mem_reverse.mp (List.getElem_mem h)
    exact ⟨ho.two _ hm, (ho.bits _ hm).mono (by decide)⟩
  refine s_seq (s_forN 9 nd (i_is (i_rev hh.b_reversed (x_v 3)) (dInts_rev o)) (fun j => [.val (nestD o i), .val (corOf i).hD, .val (.int st), .val (.tup (dInts o)), .val (.tup (dInts i)), .val (.int (corOf i).many), .val (.int (st / (corOf i).many)), .val (.int (restAt o.reverse (st / (corOf i).many) j)), .own (.lst (dInts ((ovR o.reverse (st / (corOf i).many)).take j))), .any, .any, .any, .any, .any, .any]) ⟨.inr rfl, .inr rfl, .inr rfl, .inr rfl, .inr rfl, .inr rfl, .inr rfl, .inr rfl, .inr rfl, .inl rfl, .inl rfl, .inl rfl, .inl rfl, .inl rfl, .inl rfl, trivial⟩ (fun j d hj => ?_)) ?_
  · obtain ⟨hl, rfl⟩ := dInts_get hj
    obtain ⟨h2, hSj⟩ := hr2 j hl
    have hll : j < o.length := by simpa using hl
    refine s_seq (s_set 10 nd (x_mod (x_v 7) (x_v 9) (by omega))) ?_
    refine s_seq (s_set 7 nd (x_divS (x_v 7) (x_v 9) (by omega) hSj)) ?_
    refine s_seq (s_app 8 (x_mod (x_sub (x_v 10) (x_v 7)) (x_v 9) (by omega)) rfl (.inl rfl) (by rw [dInts_len, List.length_take]; omega)) ?_
    exact s_nil ⟨.inr rfl, .inr rfl, .inr rfl, .inr rfl, .inr rfl, .inr rfl, .inr rfl, .inr (by rw [restAt_s hl]), .inr (by rw [ovR_take hl, ← dInts_app]; unfold ovAt; rw [getD_get hl, restAt_s hl]; rfl), .inl rfl, .inl rfl, .inl rfl, .inl rfl, .inl rfl, .inl rfl, trivial⟩
  refine s_sub (ρ' := [.val (nestD o i), .val (corOf i).hD, .val (.int st), .val (.tup (dInts o)), .val (.tup (dInts i)), .val (.int (corOf i).many), .val (.int (st / (corOf i).many)), .any, .own (.lst (dInts (ovR o.reverse (st / (corOf i).many)))), .any, .any, .any, .any, .any, .any]) ⟨.inr rfl, .inr rfl, .inr rfl, .inr rfl, .inr rfl, .inr rfl, .inr rfl, .inl rfl, .inr (by rw [dInts_len, ← ovR_len (c := st / (corOf i).many), List.take_length]), .inl rfl, .inl rfl, .inl rfl, .inl rfl, .inl rfl, .inl rfl, trivial⟩ ?_
  have hm0 := Int.emod_nonneg st (show (corOf i).many ≠ 0 by omega)
  have hm1 := Int.emod_lt_of_pos st hp
  have rb := Cor.vals_row hc (k := k) hm0 hm1
  have rs := Cor.vals_row hc (st := (corOf i).many - 1) (k := kl) (by omega) (by omega)
  rw [corOf_sizes] at rb rs
  refine s_seq (s_set (d := .tup (dInts ((corOf i).vals (st % (corOf i).many) k))) 11 nd (x_f (fo_d_core_values hh) hr (a_cons (x_core (x_v 4)) (a_cons (x_v 1) (a_cons (x_mod (x_v 2) (x_v 5) hp) a_nil))) ⟨_, _, k, rfl, rfl, hc, hm0, hk⟩)) ?_
  refine s_seq (s_set (d := .tup (dInts ((corOf i).vals ((corOf i).many - 1) kl))) 12 nd (x_f (fo_d_core_values hh) hr (a_cons (x_core (x_v 4)) (a_cons (x_v 1) (a_cons (x_sub (x_v 5) x_int) a_nil))) ⟨_, _, kl, rfl, rfl, hc, by omega, hkl⟩)) ?_
  have la : (dInts ((corOf i).vals (st % (corOf i).many) k)).length = (dInts ((corOf i).vals ((corOf i).many - 1) kl)).length := by rw [dInts_len, dInts_len, rb.1, rs.1]
  have lb : (dInts ((corOf i).vals ((corOf i).many - 1) kl)).length = (dInts i).length := by rw [dInts_len, dInts_len, rs.1]
  have lz : (zip3D (dInts ((corOf i).vals (st % (corOf i).many) k)) (dInts ((corOf i).vals ((corOf i).many - 1) kl)) (dInts i)).length = i.length := by rw [zip3D_len la lb, dInts_len, rb.1]
  refine s_seq (s_lc3 10 14 9 (fun j => .int ((((corOf i).vals (st % (corOf i).many) k).getD j 0 + (st / (corOf i).many) * ((corOf i).vals ((corOf i).many - 1) kl).getD j 0) % i.getD j 0)) nd 13 (i_zip3 hh.b_zip (x_v 11) (x_v 12) (x_v 4) la lb) (by rw [lz]; omega) zip3D_thr ?_) ?_
  · intro s H C cl fp j a b c hj
    obtain ⟨q1, q2, q3, rfl, rfl, rfl⟩ := zip3I_get hj
    rw [getD_get q1, getD_get q2, getD_get q3]
    have b1 := rs.2 j q3 q2
    have b2 := hi.get q3
    exact x_mod (x_add (x_v 10) (x_mulS (x_v 6) (x_v 14) hcS ((hi.getSm q3).le b1.1 (by omega)))) (x_v 9) (by omega)
  · rw [lz]
    refine r_ret (x_is (x_catT (x_tupRevM rfl hh.b_tuple hh.b_reversed (n := 8) (.inl rfl)) (x_tupL hh.b_tuple (x_is (x_v 13) (congrArg D.lst lc_ints))) ?_) ?_) sa
    · rw [List.length_reverse, dInts_len, dInts_len, ovR_len, List.length_reverse, List.length_map, List.length_range]; omega
    · rw [dInts_rev, dInts_app2]; rfl
/-! ### a row's place -/
def cplS (c s v : Int) : Int := c * s + (v + c) % s
def cplAt (o row : List Int) (i : Nat) : Int := ((o.take i).zip (row.take i)).foldl (fun c p => cplS c p.1 p.2) 0
theorem cplAt_s {o row : List Int} {i : Nat} (h1 : i < o.length) (h2 : i < row.length) : cplAt o row (i + 1) = cplS (cplAt o row i) o[i] row[i] := by
  unfold cplAt
  rw [List.take_succ_eq_append_getElem h1, List.take_succ_eq_append_getElem h2, List.zip_append (by rw [List.length_take, List.length_take]; omega), List.foldl_append]; rfl
theorem cplAt_lt {o row : List Int} (h : o.length ≤ row.length) (h2 : ∀ s ∈ o, 2 ≤ s) : ∀ (i : Nat), i ≤ o.length → 0 ≤ cplAt o row i ∧ cplAt o row i < pr (o.take i)
  | 0, _ => by show 0 ≤ (0 : Int) ∧ (0 : Int) < 1; omega
  | i + 1, hi => by
    obtain ⟨a, b⟩ := cplAt_lt h h2 i (by omega)
    rw [cplAt_s (by omega) (by omega), pr_take (by omega)]
    have s2 := h2 o[i] (List.getElem_mem (by omega))
    have m0 := Int.emod_nonneg (row[i] + cplAt o row i) (show o[i] ≠ 0 by omega)
    have m1 := Int.emod_lt_of_pos (row[i] + cplAt o row i) (show 0 < o[i] by omega)
    unfold cplS
    have p1 : 0 ≤ cplAt o row i * o[i] := Int.mul_nonneg a (by omega)
    have p2 : (cplAt o row i + 1) * o[i] ≤ pr (o.take i) * o[i] := Int.mul_le_mul_of_nonneg_right (by omega) (by omega)
    rw [Int.add_mul] at p2
    omega
def cpl (o row : List Int) : Int := cplAt o row o.length
def backL (rest steps inner : List Int) (c : Int) : List Int := (List.range inner.length).map fun i => (rest.getD i 0 - c * steps.getD i 0) % inner.getD i 0
/-! ### d_nest_place -/
def F_d_nest_place (ds : List D) (r : Res) : Prop := ∃ (o i row : List Int) (kl st : Int), ds = [nestD o i, (corOf i).hD, .tup (dInts row)] ∧ r = .ok (.int (cpl o row * (corOf i).many + st)) ∧ SzB o ∧ SzB i ∧ row.length = o.length + i.length ∧ Sm (corOf i).many ∧ (corOf i).Left ((corOf i).many - 1) kl ∧ F_d_core_place [.tup (dInts (corOf i).sizes), (corOf i).hD, .tup (dInts (backL (row.drop o.length) ((corOf i).vals ((corOf i).many - 1) kl) i (cpl o row)))] (.ok (.int st))
theorem sc_d_nest_place : FnScope ["nest", "halves", "row", "outer", "inner", "held", "copies", "size", "value", "steps", "rest", "base", "within", "step"] ["nest", "halves", "row"] (defScope s_d_nest_place) := ⟨rfl, rfl, rfl, by decide +kernel, rfl, by decide +kernel, by decide +kernel⟩
theorem fo_d_nest_place {Y : Wo} (hh : Y.hd) : Fo Y 4 "d_nest_place" ["nest", "halves", "row"] F_d_nest_place := by
  have nd : (["nest", "halves", "row", "outer", "inner", "held", "copies", "size", "value", "steps", "rest", "base", "within", "step"] : List Str).Nodup := sc_d_nest_place.nd
  refine mkF (k := 3) (N := ["nest", "halves", "row", "outer", "inner", "held", "copies", "size", "value", "steps", "rest", "base", "within", "step"]) hh 22 ds_d_nest_place sc_d_nest_place (fun _ _ _ _ _ _ us hl => match us, hl with | [_, _, _], _ => rfl) (by rintro ds r ⟨o, i, row, kl, st, rfl, rfl, ho, hi, hrl, hM, hkl, hF⟩; rfl) ?_
  rintro cdv A outer s H E ds r hr ⟨o, i, row, kl, st, rfl, rfl, ho, hi, hrl, hM, hkl, hF⟩
  have hc := corOf_ok hi
  have hp := Cor.many_pos hc
  have l1 := ho.len
  have l2 := hi.len
  have hb : 0 ≤ cpl o row ∧ cpl o row < pr o := by
    have := cplAt_lt (row := row) (by omega) ho.two o.length (Nat.le_refl _)
    rw [List.take_length] at this; exact this
  have hcS : Sm (cpl o row) := ho.sm.le hb.1 (by omega)
  refine s_seq (s_asg2 (a := .tup (dInts o)) (b := .tup (dInts i)) 3 4 nd (x_v 0)) ?_
  refine s_seq (s_set (d := .int (corOf i).many) 5 nd (x_f (fo_d_core_many hh) hr (a_cons (x_core (x_v 4)) (a_cons (x_v 1) a_nil)) ⟨_, rfl, rfl, hc⟩)) ?_
  refine s_seq (s_set 6 nd x_int) ?_
  have lz : (zip2D (dInts o) (dInts row)).length = o.length := by rw [zip2D_len, dInts_len, dInts_len]; omega
  refine s_seq (s_for2 7 8 nd (i_zip hh.b_zip (x_v 3) (x_v 2)) (fun j => [.val (nestD o i), .val (corOf i).hD, .val (.tup (dInts row)), .val (.tup (dInts o)), .val (.tup (dInts i)), .val (.int (corOf i).many), .val (.int (cplAt o row j)), .any, .any, .any, .any, .any, .any, .any]) ⟨.inr rfl, .inr rfl, .inr rfl, .inr rfl, .inr rfl, .inr rfl, .inr rfl, .inl rfl, .inl rfl, .inl rfl, .inl rfl, .inl rfl, .inl rfl, .inl rfl, trivial⟩ zip2D_two (fun j a b hj => ?_)) ?_
  · obtain ⟨q1, q2, rfl, rfl⟩ := zip2I_get hj
    have hl := cplAt_lt (row := row) (by omega) ho.two j (by omega)
    have p2 := ho.get q1
    refine s_seq (s_set 6 nd (x_add (x_mulS (x_v 6) (x_v 7) ((ho.take j).sm.le hl.1 (by omega)) (ho.getSm q1)) (x_mod (x_add (x_v 8) (x_v 6)) (x_v 7) (by omega)))) ?_
    exact s_nil ⟨.inr rfl, .inr rfl, .inr rfl, .inr rfl, .inr rfl, .inr rfl, .inr (by rw [cplAt_s q1 q2]; rfl), .inl rfl, .inl rfl, .inl rfl, .inl rfl, .inl rfl, .inl rfl, .inl rfl, trivial⟩
  rw [lz]
  have rs := Cor.vals_row hc (st := (corOf i).many - 1) (k := kl) (by omega) (by omega)
  rw [corOf_sizes] at rs
  refine s_seq (s_set (d := .tup (dInts ((corOf i).vals ((corOf i).many - 1) kl))) 9 nd (x_f (fo_d_core_values hh) hr (a_cons (x_core (x_v 4)) (a_cons (x_v 1) (a_cons (x_sub (x_v 5) x_int) a_nil))) ⟨_, _, kl, rfl, rfl, hc, by omega, hkl⟩)) ?_
  refine s_seq (s_set (d := .tup (dInts (row.drop o.length))) 10 nd (x_is (x_slT (x_v 2) (o_at (x_lenI hh.b_len (x_v 3))) o_no) (by rw [cutD_from row rfl (by omega)]))) ?_
  have la : (dInts (row.drop o.length)).length = (dInts ((corOf i).vals ((corOf i).many - 1) kl)).length := by rw [dInts_len, dInts_len, rs.1, List.length_drop]; omega
  have lb : (dInts ((corOf i).vals ((corOf i).many - 1) kl)).length = (dInts i).length := by rw [dInts_len, dInts_len, rs.1]
  have lz2 : (zip3D (dInts (row.drop o.length)) (dInts ((corOf i).vals ((corOf i).many - 1) kl)) (dInts i)).length = i.length := by rw [zip3D_len la lb, dInts_len, List.length_drop]; omega
  refine s_seq (s_set (d := .tup (dInts (backL (row.drop o.length) ((corOf i).vals ((corOf i).many - 1) kl) i (cpl o row)))) 11 nd (x_tupL hh.b_tuple (x_is (x_lc3 8 13 7 (fun j => .int (((row.drop o.length).getD j 0 - cpl o row * ((corOf i).vals ((corOf i).many - 1) kl).getD j 0) % i.getD j 0)) nd (i_zip3 hh.b_zip (x_v 10) (x_v 9) (x_v 4) la lb) (by rw [lz2]; omega) zip3D_thr ?_) (by rw [lz2, lc_ints]; rfl)))) ?_
  · intro s H C cl fp j a b c hj
    obtain ⟨q1, q2, q3, rfl, rfl, rfl⟩ := zip3I_get hj
    rw [getD_get q1, getD_get q2, getD_get q3]
    have b1 := rs.2 j q3 q2
    have b2 := hi.get q3
    exact x_mod (x_sub (x_v 8) (x_mulS (x_v 6) (x_v 13) hcS ((hi.getSm q3).le b1.1 (by omega)))) (x_v 7) (by omega)
  refine s_seq (s_set (d := .int st) 12 nd (x_f (fo_d_core_place hh) hr (a_cons (x_core (x_v 4)) (a_cons (x_v 1) (a_cons (x_v 11) a_nil))) hF)) ?_
  refine r_skip (t_is (t_isN (x_v 12)) rfl) ?_
  exact r_ret (x_add (x_mulS (x_v 6) (x_v 5) hcS hM) (x_v 12)) sa
end Sd

namespace Sd
open PySem PySem.Spec L2
open PyProof.Rows (envOfC)

def optD : Option Int → D
  | some i => .int i
  | none => .non
def spotI (s v lap : Int) : Int := if lap % 2 = 0 then v else s - 1 - v
def begI (s w v c : Int) : Int := (c / (w * s) * s + spotI s v (c / (w * s))) * w
def showOn (s w v c many : Int) : Option Int :=
  if c < begI s w v c + w then some (max c (begI s w v c))
  else if ((c / (w * s) + 1) * s + s - 1 - spotI s v (c / (w * s))) * w < many then some (((c / (w * s) + 1) * s + s - 1 - spotI s v (c / (w * s))) * w) else none
def showBack (s w v c : Int) : Option Int :=
  if begI s w v c ≤ c then some (min c (begI s w v c + w - 1))
  else if c / (w * s) = 0 then none else some (((c / (w * s) - 1) * s + s - spotI s v (c / (w * s))) * w - 1)
structure ShQ (s w v c : Int) : Prop where
  s2 : 2 ≤ s
  w0 : 0 < w
  v0 : 0 ≤ v
  v1 : v < s
  c0 : 0 ≤ c
  bs : Bd 41 s
  bw : Bd 1700 w
  bc : Bd 1700 c
theorem ShQ.facts {s w v c : Int} (h : ShQ s w v c) : 0 < w * s ∧ Sm (w * s) ∧ 0 ≤ c / (w * s) ∧ Bd 1700 (c / (w * s)) ∧ Bd 41 (spotI s v (c / (w * s))) := by
  have hs := h.s2
  have hw := h.w0
  have hv0 := h.v0
  have hv1 := h.v1
  have p : 0 < w * s := Int.mul_pos hw (by omega)
  have q : 0 ≤ c / (w * s) := Int.ediv_nonneg h.c0 (by omega)
  refine ⟨p, (h.bw.mul h.bs).mono (by decide), q, h.bc.le q (Int.ediv_le_self _ h.c0), h.bs.le ?_ ?_⟩
  · unfold spotI; split <;> omega
  · unfold spotI; split <;> omega
/-! ### show_on -/
def F_show_on (ds : List D) (r : Res) : Prop := ∃ s w v c many : Int, ds = [.int s, .int w, .int v, .int c, .int many] ∧ r = .ok (optD (showOn s w v c many)) ∧ ShQ s w v c
theorem sc_show_on : FnScope ["size", "width", "value", "count", "many", "lap", "spot", "begin"] ["size", "width", "value", "count", "many"] (defScope s_show_on) := ⟨rfl, rfl, rfl, by decide +kernel, rfl, by decide +kernel, by decide +kernel⟩
theorem fo_show_on {Y : Wo} (hh : Y.hd) : Fo Y 1 "show_on" ["size", "width", "value", "count", "many"] F_show_on := by
  have nd : (["size", "width", "value", "count", "many", "lap", "spot", "begin"] : List Str).Nodup := sc_show_on.nd
  refine mkF (k := 0) (N := ["size", "width", "value", "count", "many", "lap", "spot", "begin"]) hh 31 ds_show_on sc_show_on (fun _ _ _ _ _ _ us hl => match us, hl with | [_, _, _, _, _], _ => rfl) (by rintro ds r ⟨s', w, v, c, many, rfl, rfl, h⟩; rfl) ?_
  rintro cdv A outer s H E ds r hr ⟨s', w, v, c, many, rfl, rfl, h⟩
  obtain ⟨p, q1, q2, q3, q4⟩ := h.facts
  have bs := h.bs
  have bw := h.bw
  refine s_seq (s_set 5 nd (x_divS (x_v 3) (x_mulS (x_v 1) (x_v 0) (bw.mono (by decide)) (bs.mono (by decide))) p q1)) ?_
  refine s_seq (s_set (d := .int (spotI s' v (c / (w * s')))) 6 nd (x_if (t_eq (x_mod (x_v 5) x_int (by decide)) x_int rfl) (fun hc => x_is (x_v 2) ?_) (fun hc => x_is (x_sub (x_sub (x_v 0) x_int) (x_v 2)) ?_))) ?_
  · unfold spotI; rw [ifT hc]
  · unfold spotI; rw [ifF hc]
  refine s_seq (s_set (d := .int (begI s' w v c)) 7 nd (x_mulS (x_add (x_mulS (x_v 5) (x_v 0) (q3.mono (by decide)) (bs.mono (by decide))) (x_v 6)) (x_v 1) (((q3.mul bs).add q4).mono (by decide)) (bw.mono (by decide)))) ?_
  refine r_when (t_gt (x_add (x_v 7) (x_v 1)) (x_v 3)) (fun hc => ⟨r_ret (x_is (x_max hh.b_max rfl (x_v 3) (x_v 7)) ?_) sa, rfl⟩) (fun hc => ?_)
  · unfold showOn; rw [ifT hc]; rfl
  refine s_seq (s_set (d := .int (((c / (w * s') + 1) * s' + s' - 1 - spotI s' v (c / (w * s'))) * w)) 7 nd (x_mulS (x_sub (x_sub (x_add (x_mulS (x_add (x_v 5) x_int) (x_v 0) ((q3.add (Bd.lit 1)).mono (by decide)) (bs.mono (by decide))) (x_v 0)) x_int) (x_v 6)) (x_v 1) ((((((q3.add (Bd.lit 1)).mul bs).add bs).sub (Bd.lit 1)).sub q4).mono (by decide)) (bw.mono (by decide)))) ?_
  refine r_ret (x_if (t_lt (x_v 7) (x_v 4)) (fun h2 => x_is (x_v 7) ?_) (fun h2 => x_is x_non ?_)) sa
  · unfold showOn; rw [ifF hc, ifT h2]; rfl
  · unfold showOn; rw [ifF hc, ifF h2]; rfl
/-! ### show_back -/
def F_show_back (ds : List D) (r : Res) : Prop := ∃ s w v c : Int, ds = [.int s, .int w, .int v, .int c] ∧ r = .ok (optD (showBack s w v c)) ∧ ShQ s w v c
theorem sc_show_back : FnScope ["size", "width", "value", "count", "lap", "spot", "begin"] ["size", "width", "value", "count"] (defScope s_show_back) := ⟨rfl, rfl, rfl, by decide +kernel, rfl, by decide +kernel, by decide +kernel⟩
theorem fo_show_back {Y : Wo} (hh : Y.hd) : Fo Y 1 "show_back" ["size", "width", "value", "count"] F_show_back := by
  have nd : (["size", "width", "value", "count", "lap", "spot", "begin"] : List Str).Nodup := sc_show_back.nd
  refine mkF (k := 0) (N := ["size", "width", "value", "count", "lap", "spot", "begin"]) hh 32 ds_show_back sc_show_back (fun _ _ _ _ _ _ us hl => match us, hl with | [_, _, _, _], _ => rfl) (by rintro ds r ⟨s', w, v, c, rfl, rfl, h⟩; rfl) ?_
  rintro cdv A outer s H E ds r hr ⟨s', w, v, c, rfl, rfl, h⟩
  obtain ⟨p, q1, q2, q3, q4⟩ := h.facts
  have bs := h.bs
  have bw := h.bw
  refine s_seq (s_set 4 nd (x_divS (x_v 3) (x_mulS (x_v 1) (x_v 0) (bw.mono (by decide)) (bs.mono (by decide))) p q1)) ?_
  refine s_seq (s_set (d := .int (spotI s' v (c / (w * s')))) 5 nd (x_if (t_eq (x_mod (x_v 4) x_int (by decide)) x_int rfl) (fun hc => x_is (x_v 2) ?_) (fun hc => x_is (x_sub (x_sub (x_v 0) x_int) (x_v 2)) ?_))) ?_
  · unfold spotI; rw [ifT hc]
  · unfold spotI; rw [ifF hc]
  refine s_seq (s_set (d := .int (begI s' w v c)) 6 nd (x_mulS (x_add (x_mulS (x_v 4) (x_v 0) (q3.mono (by decide)) (bs.mono (by decide))) (x_v 5)) (x_v 1) (((q3.mul bs).add q4).mono (by decide)) (bw.mono (by decide)))) ?_
  refine r_when (t_le (x_v 6) (x_v 3)) (fun hc => ⟨r_ret (x_is (x_min hh.b_min rfl (x_v 3) (x_sub (x_add (x_v 6) (x_v 1)) x_int)) ?_) sa, rfl⟩) (fun hc => ?_)
  · unfold showBack; rw [ifT hc]; rfl
  refine r_when (t_eq (x_v 4) x_int rfl) (fun h2 => ⟨r_ret (x_is x_non ?_) sa, rfl⟩) (fun h2 => ?_)
  · unfold showBack; rw [ifF hc, ifT h2]; rfl
  refine r_ret (x_is (x_sub (x_mulS (x_sub (x_add (x_mulS (x_sub (x_v 4) x_int) (x_v 0) ((q3.sub (Bd.lit 1)).mono (by decide)) (bs.mono (by decide))) (x_v 0)) (x_v 5)) (x_v 1) (((((q3.sub (Bd.lit 1)).mul bs).add bs).sub q4).mono (by decide)) (bw.mono (by decide))) x_int) ?_) sa
  unfold showBack; rw [ifF hc, ifF h2]; rfl
/-! ### the widths of a mesh's places -/
def widI (ss : List Int) (g p : Nat) : Int := if p < g then pr ((ss.take g).drop (p + 1)) else pr ((ss.drop g).take (p - g))
def widths (ss : List Int) (g : Nat) : List Int := (List.range ss.length).map (widI ss g)
def mapI (n : Nat) (f : Nat → Int) : List D := dInts ((List.range n).map f)
theorem mapI_len {n : Nat} {f : Nat → Int} : (mapI n f).length = n := by simp [mapI]
theorem mapI_get {n i : Nat} {f : Nat → Int} : (mapI n f)[i]? = if i < n then some (.int (f i)) else none := by
  unfold mapI dInts
  by_cases h : i < n
  · rw [List.getElem?_map, List.getElem?_map, List.getElem?_range h, if_pos h]; rfl
  · rw [if_neg h, List.getElem?_eq_none (by simp; omega)]
theorem mapI_set {n p : Nat} {f g : Nat → Int} {v : Int} (h : ∀ q, q < n → g q = if q = p then v else f q) : (mapI n f).set p (.int v) = mapI n g := by
  apply List.ext_getElem?
  intro i
  rw [List.getElem?_set, mapI_get, mapI_get, mapI_len]
  by_cases hi : i < n
  · rw [h i hi]
    by_cases e : p = i
    · subst e; rw [if_pos rfl, if_pos hi, if_pos hi, if_pos rfl]
    · rw [if_neg e, if_pos hi, if_pos hi, if_neg (Ne.symm e)]
  · by_cases e : p = i
    · subst e; rw [if_pos rfl, if_neg hi, if_neg hi]
    · rw [if_neg e, if_neg hi, if_neg hi]
theorem mapI_eq {n : Nat} {f g : Nat → Int} (h : ∀ q, q < n → f q = g q) : mapI n f = mapI n g := by
  unfold mapI
  congr 1
  exact List.map_congr_left fun q hq => h q (List.mem_range.mp hq)
theorem mapI_at {n p : Nat} {f : Nat → Int} (h : p < n) : atI (mapI n f) (p : Int) = some (.int (f p)) := by
  refine atI_nat ?_
  unfold mapI dInts
  rw [List.getElem?_map, List.getElem?_map, List.getElem?_range h]; rfl
theorem ixN_nat {n p : Nat} (h : p < n) : ixN n (p : Int) = some p := by unfold ixN; simp [h]
theorem wid_left {ss : List Int} {g p : Nat} (h : p + 1 < g) (hg : g ≤ ss.length) : widI ss g p = widI ss g (p + 1) * ss.getD (p + 1) 0 := by
  unfold widI
  rw [if_pos (by omega), if_pos h]
  have hl : p + 1 < (ss.take g).length := by rw [List.length_take]; omega
  rw [pr_drop hl, List.getElem_take, Int.mul_comm, getD_get (by omega)]
theorem wid_right {ss : List Int} {g p : Nat} (h : g ≤ p) (hp : p + 1 < ss.length) : widI ss g (p + 1) = widI ss g p * ss.getD p 0 := by
  unfold widI
  rw [if_neg (by omega), if_neg (by omega)]
  have e : p + 1 - g = (p - g) + 1 := by omega
  have hl : p - g < (ss.drop g).length := by rw [List.length_drop]; omega
  rw [e, pr_take hl, List.getElem_drop, getD_get (by omega)]
  congr 2
  omega
theorem wid_sm {ss : List Int} (hs : SzB ss) (g p : Nat) : 0 < widI ss g p ∧ Bd 1641 (widI ss g p) := by
  unfold widI
  split
  · have h := (hs.take g).drop (p + 1)
    exact ⟨h.pos, h.bd⟩
  · have h := (hs.drop g).take (p - g)
    exact ⟨h.pos, h.bd⟩
/-! ### half_widths -/
def F_half_widths (ds : List D) (r : Res) : Prop := ∃ (ss : List Int) (g : Nat), ds = [.tup (dInts ss), .int g] ∧ r = .ok (.lst (dInts (widths ss g))) ∧ SzB ss ∧ 1 ≤ g ∧ g < ss.length
theorem sc_half_widths : FnScope ["inner", "gap", "widths", "place"] ["inner", "gap"] (defScope s_half_widths) := ⟨rfl, rfl, rfl, by decide +kernel, rfl, by decide +kernel, by decide +kernel⟩
theorem fo_half_widths {Y : Wo} (hh : Y.hd) : Fo Y 1 "half_widths" ["inner", "gap"] F_half_widths := by
  have nd : (["inner", "gap", "widths", "place"] : List Str).Nodup := sc_half_widths.nd
  refine mkF (k := 0) (N := ["inner", "gap", "widths", "place"]) hh 33 ds_half_widths sc_half_widths (fun _ _ _ _ _ _ us hl => match us, hl with | [_, _], _ => rfl) (by rintro ds r ⟨ss, g, rfl, rfl, hs, g1, g2⟩; rfl) ?_
  rintro cdv A outer s H E ds r hr ⟨ss, g, rfl, rfl, hs, g1, g2⟩
  have h40 := hs.len
  refine s_seq (s_setN 2 nd (n_rep (d := .int 1) (k := ss.length) (x_lst (k := 0) (ds := [.int 1]) (a_cons x_int a_nil) (Nat.le_of_ble_eq_true rfl)) (x_lenI hh.b_len (x_v 0)) (by omega) (by omega))) ?_
  have e0 : List.replicate ((ss.length : Int)).toNat (D.int 1) = mapI ss.length (fun _ => 1) := by
    unfold mapI dInts
    rw [Int.toNat_natCast, List.map_map]
    apply List.ext_getElem
    · simp
    · intro i h1 h2; simp
  let f1 : Nat → Nat → Int := fun j q => if g ≤ q + 1 + j ∧ q < g then widI ss g q else 1
  let f2 : Nat → Nat → Int := fun j q => if q ≤ g + j then widI ss g q else 1
  refine s_seq (s_forN 3 nd (i_dn (i := (g : Int) - 2) (j := -1) hh.b_range (x_sub (x_v 1) x_int) (x_neg x_int) (x_neg x_int) (by omega)) (fun j => [.val (.tup (dInts ss)), .val (.int g), .own (.lst (mapI ss.length (f1 j))), .any]) ⟨.inr rfl, .inr rfl, .inr ?_, .inl rfl, trivial⟩ (fun j d hj => ?_)) ?_
  · rw [e0]
    congr 2
    refine mapI_eq fun q hq => ?_
    show (if g ≤ q + 1 + 0 ∧ q < g then widI ss g q else 1) = (1 : Int)
    split
    · have : q = g - 1 := by omega
      subst this
      unfold widI
      rw [if_pos (by omega), List.drop_of_length_le (by rw [List.length_take]; omega)]; rfl
    · rfl
  · obtain ⟨hl, rfl⟩ := rngD_get hj
    obtain ⟨p, hp⟩ : ∃ p : Nat, (g : Int) - 2 + (j : Int) * (-1) = (p : Int) := ⟨((g : Int) - 2 + (j : Int) * (-1)).toNat, by omega⟩
    rw [hp]
    have hp2 : p + 2 + j = g := by omega
    have w1 := wid_sm hs g (p + 1)
    have c1 := hs.get (show p + 1 < ss.length by omega)
    refine s_seq (s_item (d := .int (widI ss g p)) (j := p) 2 (x_is (x_mulS (x_ixM (n := 2) (d := .int (widI ss g (p + 1))) (.inl rfl) (x_add (x_v 3) x_int) ?_) (x_ixI (n := p + 1) (x_v 0) (x_add (x_v 3) x_int) (by omega) (by omega)) (w1.2.mono (by decide)) (c1.2.mono (by decide))) ?_) (x_v 3) rfl (.inl rfl) ?_) ?_
    · have : ((p : Int) + 1) = ((p + 1 : Nat) : Int) := by omega
      rw [this, mapI_at (by omega)]
      show some (D.int (if g ≤ p + 1 + 1 + j ∧ p + 1 < g then _ else _)) = _
      rw [if_pos (by omega)]
    · rw [wid_left (p := p) (by omega) (by omega), getD_get]
    · rw [mapI_len]; exact ixN_nat (by omega)
    · refine s_nil ⟨.inr rfl, .inr rfl, .inr ?_, .inl rfl, trivial⟩
      show Sl.own (D.lst _) = Sl.own (D.lst ((mapI ss.length (f1 j)).set p (.int (widI ss g p))))
      rw [mapI_set (g := f1 (j + 1)) fun q hq => ?_]
      show (if g ≤ q + 1 + (j + 1) ∧ q < g then widI ss g q else 1) = if q = p then widI ss g p else if g ≤ q + 1 + j ∧ q < g then widI ss g q else 1
      by_cases e : q = p
      · subst e; rw [if_pos (by omega), if_pos rfl]
      · rw [if_neg e]
        by_cases e2 : g ≤ q + 1 + j ∧ q < g
        · rw [if_pos e2, if_pos (by omega)]
        · rw [if_neg e2, if_neg (by omega)]
  refine s_seq (s_forN 3 nd (i_rng2 (lo := (g : Int) + 1) (n := ss.length) hh.b_range (x_add (x_v 1) x_int) (x_lenI hh.b_len (x_v 0)) (by omega)) (fun j => [.val (.tup (dInts ss)), .val (.int g), .own (.lst (mapI ss.length (f2 j))), .any]) ⟨.inr rfl, .inr rfl, .inr ?_, .inl rfl, trivial⟩ (fun j d hj => ?_)) ?_
  · congr 2
    refine mapI_eq fun q hq => ?_
    show (if q ≤ g + 0 then widI ss g q else 1) = (if g ≤ q + 1 + (rngD ((g : Int) - 2) (-1) ((g : Int) - 2 - -1).toNat).length ∧ q < g then widI ss g q else 1)
    rw [rngD_len]
    by_cases e : q < g
    · rw [if_pos (by omega), if_pos (by omega)]
    · rw [if_neg (show ¬ (g ≤ q + 1 + ((g : Int) - 2 - -1).toNat ∧ q < g) by omega)]
      by_cases e2 : q = g
      · subst e2
        rw [if_pos (by omega)]
        unfold widI
        rw [if_neg (by omega), Nat.sub_self]; rfl
      · rw [if_neg (by omega)]
  · obtain ⟨hl, rfl⟩ := rngD_get hj
    obtain ⟨p, hp⟩ : ∃ p : Nat, (g : Int) + 1 + (j : Int) * 1 = (p : Int) := ⟨g + 1 + j, by omega⟩
    rw [hp]
    have hp2 : p = g + 1 + j := by omega
    have hpl : p < ss.length := by omega
    obtain ⟨p', rfl⟩ : ∃ p', p = p' + 1 := ⟨p - 1, by omega⟩
    have w1 := wid_sm hs g p'
    have c1 := hs.get (show p' < ss.length by omega)
    have ei : ((p' + 1 : Nat) : Int) - 1 = (p' : Int) := by omega
    refine s_seq (s_item (d := .int (widI ss g (p' + 1))) (j := p' + 1) 2 (x_is (x_mulS (x_ixM (n := 2) (d := .int (widI ss g p')) (.inl rfl) (x_sub (x_v 3) x_int) ?_) (x_ixI (n := p') (x_v 0) (x_sub (x_v 3) x_int) ei (by omega)) (w1.2.mono (by decide)) (c1.2.mono (by decide))) ?_) (x_v 3) rfl (.inl rfl) ?_) ?_
    · rw [ei, mapI_at (by omega)]
      show some (D.int (if p' ≤ g + j then _ else _)) = _
      rw [if_pos (by omega)]
    · rw [wid_right (p := p') (by omega) (by omega), getD_get]
    · rw [mapI_len]; exact ixN_nat (by omega)
    · refine s_nil ⟨.inr rfl, .inr rfl, .inr ?_, .inl rfl, trivial⟩
      show Sl.own (D.lst _) = Sl.own (D.lst ((mapI ss.length (f2 j)).set (p' + 1) (.int (widI ss g (p' + 1)))))
      rw [mapI_set (g := f2 (j + 1)) fun q hq => ?_]
      show (if q ≤ g + (j + 1) then widI ss g q else 1) = if q = p' + 1 then widI ss g (p' + 1) else if q ≤ g + j then widI ss g q else 1
      by_cases e : q = p' + 1
      · subst e; rw [if_pos (by omega), if_pos rfl]
      · rw [if_neg e]
        by_cases e2 : q ≤ g + j
        · rw [if_pos e2, if_pos (by omega)]
        · rw [if_neg e2, if_neg (by omega)]
  · refine s_freeze 2 (ds := mapI ss.length (f2 (rngD ((g : Int) + 1) 1 ((ss.length : Int) - ((g : Int) + 1)).toNat).length)) ?_
    refine r_ret (x_is (x_v 2) ?_) sa
    show D.lst (mapI ss.length (f2 _)) = D.lst (mapI ss.length (widI ss g))
    congr 1
    refine mapI_eq fun q hq => ?_
    rw [rngD_len]
    show (if q ≤ g + _ then widI ss g q else 1) = _
    rw [if_pos (by omega)]
end Sd

namespace Sd
open PySem PySem.Spec L2
open PyProof.Rows (envOfC)

/-! ### the halves' law of counts (what counts begin where) -/
section
variable {m : Msh} (h : MOk m)
include h
theorem Msh.g_nn {k : Int} (h0 : 0 ≤ k) : 0 ≤ m.g k := by
  have a2 := h.a2
  unfold Msh.g
  split
  · omega
  · have : 0 ≤ (k - 1) / m.a := Int.ediv_nonneg (by omega) (by omega)
    omega
theorem Msh.g_le {k : Int} (h0 : 0 ≤ k) (h1 : k ≤ m.L) : m.g k ≤ m.R - 1 := by
  have a2 := h.a2
  have b2 := h.b2
  have hR := h.R0
  have ka := h.ka
  unfold Msh.g
  split
  · omega
  · have e1 : (k - 1) / m.a < m.R := Int.ediv_lt_of_lt_mul (by omega) (by omega)
    have e2 : 0 ≤ m.b * (m.L - k) := Int.mul_nonneg (by omega) (by omega)
    omega
theorem Msh.top : m.Left (m.L + m.R - 2) (m.L - 1) := by
  have hL := h.L0
  have := Msh.g_le h (k := m.L - 1) (by omega) (by omega)
  exact ⟨by omega, by omega, by omega, fun j h1 h2 => by omega⟩
end
def Cor.top : Cor → Int
  | .msh m => m.L - 1
  | _ => 0
theorem Cor.top_left {c : Cor} (h : COk c) : c.Left (c.many - 1) c.top := fun m e => by
  subst e
  have := Msh.top (h.ms m rfl).1
  show m.Left (m.L + m.R - 1 - 1) (m.L - 1)
  have e : m.L + m.R - 1 - 1 = m.L + m.R - 2 := by omega
  rw [e]; exact this
/-! ### TellCore -/
def coreKs : List Str := ["sizes", "many", "moved", "gap", "halves", "widths"]
def coreMoved (i : List Int) : List Int := (corOf i).vals ((corOf i).many - 1) (corOf i).top
def coreGap (i : List Int) : Int := if 2 ≤ i.length then (gapI i : Int) + 1 else 0
def coreHal (i : List Int) : List Int := if 2 ≤ i.length then [(mshOf i).L, (mshOf i).R, (mshOf i).a, (mshOf i).b] else [1, 1, 1, 1]
def coreWid (i : List Int) : List Int := if 2 ≤ i.length then widths i (gapI i + 1) else []
def coreFs (i : List Int) : List D := [.tup (dInts i), .int (corOf i).many, .tup (dInts (coreMoved i)), .int (coreGap i), .tup (dInts (coreHal i)), .lst (dInts (coreWid i))]
def coreD (K : PySem.W.Frag) (i : List Int) : D := .ins (He.ga K "TellCore") coreKs (coreFs i)
theorem Hd.c_core {K : PySem.W.Frag} {mg : Str → Option Value} (h : Hd K mg) : Cls K (He.ga K "TellCore") := h.cls 92
theorem Hd.c_nest {K : PySem.W.Frag} {mg : Str → Option Value} (h : Hd K mg) : Cls K (He.ga K "TellNest") := h.cls 100
theorem Hd.c_tell {K : PySem.W.Frag} {mg : Str → Option Value} (h : Hd K mg) : Cls K (He.ga K "Teller") := h.cls 106
/-! ### TellCore.__init__ -/
def F_TellCore_init (Y : Wo) (ds : List D) (ks : List Str) (fs : List D) : Prop := ∃ i : List Int, ds = [.tup (dInts i)] ∧ ks = coreKs ∧ fs = coreFs i ∧ SzB i
theorem sc_TellCore_init : FnScope ["self", "inner"] ["self", "inner"] (defScope s_TellCore_init) := ⟨rfl, rfl, rfl, by decide +kernel, rfl, by decide +kernel, by decide +kernel⟩
theorem fo_TellCore_init {Y : Wo} (hh : Y.hd) : FoI Y 7 "TellCore" ["self", "inner"] (F_TellCore_init Y) := by
  have nd : (["self", "inner"] : List Str).Nodup := sc_TellCore_init.nd
  refine mkI (k := 6) (N := ["self", "inner"]) hh 74 99 74 ds_TellCore_init sc_TellCore_init (fun _ _ _ _ _ _ us hl => match us, hl with | [_, _], _ => rfl) (by rintro ds ks fs ⟨i, rfl, rfl, rfl, hi⟩; rfl) ?_
  rintro cdv A outer s H E ds ks fs hr ⟨i, rfl, rfl, rfl, hi⟩
  refine ⟨[.any], ?_⟩
  have hc := corOf_ok hi
  have hp := Cor.many_pos hc
  have em := corOf_many hi
  refine s_seq (s_fldN 0 (x_v 1) rfl (.inr rfl) hh.c_core (hh.noat 93) (by decide)) ?_
  refine s_seq (s_fldN (d := .int (corOf i).many) 0 (x_is (x_f (fo_least_cut hh) hr (a_cons (x_v 1) a_nil) ⟨i, rfl, rfl, hi⟩) (by rw [em])) rfl (.inr rfl) hh.c_core (hh.noat 94) (by decide)) ?_
  refine s_seq (s_fldN (d := .tup (dInts (coreMoved i))) 0 (x_if (t_truT (x_v 1)) (fun hne => x_f (fo_core_row hh) hr (a_cons (x_v 1) (a_cons (x_sub (x_fldM 0 1 rfl (.inr rfl) hh.c_core (hh.noat 94)) x_int) a_nil)) ⟨i, _, (corOf i).top, rfl, rfl, hi, ?_, by omega, by omega, Cor.top_left hc⟩) (fun hne => x_is (x_tup (ds := []) a_nil (by decide)) ?_)) rfl (.inr rfl) hh.c_core (hh.noat 95) (by decide)) ?_
  · cases i with
    | nil => cases hne
    | cons a b => simp
  · cases i with
    | nil => rfl
    | cons a b => cases hne
  refine s_seq (s_fldN (d := .int 0) 0 x_int rfl (.inr rfl) hh.c_core (hh.noat 96) (by decide)) ?_
  refine s_seq (s_fldN (d := .tup (dInts [1, 1, 1, 1])) 0 (x_tup (a_cons x_int (a_cons x_int (a_cons x_int (a_cons x_int a_nil)))) (by decide)) rfl (.inr rfl) hh.c_core (hh.noat 97) (by decide)) ?_
  refine s_seq (s_fldN (d := .lst []) 0 (x_lst (k := 0) (ds := []) a_nil (by decide)) rfl (.inr rfl) hh.c_core (hh.noat 98) (by decide)) ?_
  refine s_one (s_if (t_gt (x_lenI hh.b_len (x_v 1)) x_int) (fun h2 => ?_) (fun h2 => s_nil ⟨.inr ?_, .inl rfl, trivial⟩))
  · have h2 := of_decide_eq_true h2
    have h2' : 2 ≤ i.length := by omega
    have hg := gapI_lt h2'
    refine s_seq (s_fldO (d := .int ((gapI i : Nat) + 1)) 0 3 (x_f (fo_cut_gap hh) hr (a_cons (x_v 1) a_nil) ⟨i, rfl, rfl, hi, h2'⟩) rfl (.inr rfl) hh.c_core (hh.noat 96) (by decide)) ?_
    refine s_seq (s_fldO (d := .tup (dInts [(mshOf i).L, (mshOf i).R, (mshOf i).a, (mshOf i).b])) 0 4 (x_f (fo_halves_of hh) hr (a_cons (x_v 1) a_nil) ⟨i, rfl, rfl, hi, h2'⟩) rfl (.inr rfl) hh.c_core (hh.noat 97) (by decide)) ?_
    refine s_seq (s_fldO (d := .lst (dInts (widths i (gapI i + 1)))) 0 5 (x_f (fo_half_widths hh) hr (a_cons (x_v 1) (a_cons (x_fldM 0 3 rfl (.inr rfl) hh.c_core (hh.noat 96)) a_nil)) ⟨i, gapI i + 1, rfl, rfl, hi, by omega, by omega⟩) rfl (.inr rfl) hh.c_core (hh.noat 98) (by decide)) ?_
    refine s_nil ⟨.inr ?_, .inl rfl, trivial⟩
    show Sl.box (.ins _ coreKs (coreFs i)) = Sl.box (.ins _ coreKs [.tup (dInts i), .int (corOf i).many, .tup (dInts (coreMoved i)), .int ((gapI i : Nat) + 1), .tup (dInts [(mshOf i).L, (mshOf i).R, (mshOf i).a, (mshOf i).b]), .lst (dInts (widths i (gapI i + 1)))])
    unfold coreFs coreGap coreHal coreWid
    rw [if_pos h2', if_pos h2', if_pos h2']
  · have h2 := of_decide_eq_false h2
    have h2' : ¬ 2 ≤ i.length := by omega
    show Sl.box (.ins _ coreKs (coreFs i)) = Sl.box (.ins _ coreKs [.tup (dInts i), .int (corOf i).many, .tup (dInts (coreMoved i)), .int 0, .tup (dInts [1, 1, 1, 1]), .lst []])
    unfold coreFs coreGap coreHal coreWid
    rw [if_neg h2', if_neg h2', if_neg h2']; rfl
end Sd

namespace Sd
/-! ### the closed form of the counts -/
def slowI (a T : Int) : Int := T / (a + 1) * a + min (T % (a + 1)) (a - 1)
theorem slow_iff {a T n : Int} (ha : 2 ≤ a) (hT : 0 ≤ T) (hn : 0 ≤ n) : n + n / a ≤ T ↔ n ≤ slowI a T := by
  have eT := Int.mul_ediv_add_emod T (a + 1)
  have r0 := Int.emod_nonneg T (show a + 1 ≠ 0 by omega)
  have r1 := Int.emod_lt_of_pos T (show 0 < a + 1 by omega)
  have en := Int.mul_ediv_add_emod n a
  have v0 := Int.emod_nonneg n (show a ≠ 0 by omega)
  have v1 := Int.emod_lt_of_pos n (show 0 < a by omega)
  unfold slowI
  generalize T / (a + 1) = q at *
  generalize T % (a + 1) = r at *
  generalize n / a = u at *
  generalize n % a = v at *
  rw [Int.add_mul, Int.one_mul] at eT
  rw [Int.mul_comm q a]
  rcases Int.lt_trichotomy u q with h | h | h
  · have : a * (u + 1) ≤ a * q := Int.mul_le_mul_of_nonneg_left (by omega) (by omega)
    rw [Int.mul_add, Int.mul_one] at this
    omega
  · subst h; omega
  · have : a * (q + 1) ≤ a * u := Int.mul_le_mul_of_nonneg_left (by omega) (by omega)
    rw [Int.mul_add, Int.mul_one] at this
    omega
section
variable {m : Msh} (h : MOk m)
include h
def Msh.slow (m : Msh) (st : Int) : Int := 1 + slowI m.a (st - 1)
def Msh.late (m : Msh) (st : Int) : Int := (st - m.R + 1 + m.b * m.L) / (m.b + 1)
theorem Msh.g_iff {st j : Int} (h1 : 1 ≤ st) (hj : 1 ≤ j) : j + m.g j ≤ st ↔ j ≤ m.slow st ∧ j ≤ m.late st := by
  have a2 := h.a2
  have b2 := h.b2
  have e1 := slow_iff (a := m.a) (T := st - 1) (n := j - 1) a2 (by omega) (by omega)
  have e2 : j ≤ m.late st ↔ j * (m.b + 1) ≤ st - m.R + 1 + m.b * m.L := Int.le_ediv_iff_mul_le (by omega)
  unfold Msh.g Msh.slow
  rw [if_neg (by omega), e2, Int.mul_add, Int.mul_one, Int.mul_sub, Int.mul_comm m.b j]
  omega
theorem Msh.left_eq {st k : Int} (h1 : 1 ≤ st) (hk : m.Left st k) : k = min (min (m.slow st) (m.late st)) (m.L - 1) := by
  obtain ⟨k0, k1, k2, k3⟩ := hk
  have a2 := h.a2
  have b2 := h.b2
  have s1 : 1 ≤ m.slow st := by
    unfold Msh.slow slowI
    have q0 : 0 ≤ (st - 1) / (m.a + 1) * m.a := Int.mul_nonneg (Int.ediv_nonneg (by omega) (by omega)) (by omega)
    have r0 := Int.emod_nonneg (st - 1) (show m.a + 1 ≠ 0 by omega)
    omega
  have l0 : 0 ≤ m.late st := by
    unfold Msh.late
    have kb := h.kb
    refine Int.ediv_nonneg ?_ (by omega)
    rw [Int.mul_comm m.b m.L]
    omega
  have hle : k ≤ min (min (m.slow st) (m.late st)) (m.L - 1) := by
    by_cases hk1 : 1 ≤ k
    · have := (Msh.g_iff h h1 hk1).mp k2
      omega
    · omega
  have hge : ¬ k < min (min (m.slow st) (m.late st)) (m.L - 1) := by
    intro hlt
    have := k3 (k + 1) (by omega) (by omega)
    have := (Msh.g_iff h h1 (show 1 ≤ k + 1 by omega)).mpr ⟨by omega, by omega⟩
    omega
  omega
theorem Msh.left_zero {k : Int} (hk : m.Left 0 k) : k = 0 := by
  obtain ⟨k0, k1, k2, k3⟩ := hk
  have := Msh.g_nn h k0
  omega
/-- what counts are: one more of one of the two -/
theorem Msh.left_ex {st : Int} (h0 : 0 ≤ st) : ∃ k, m.Left st k := by
  have hL := h.L0
  have : ∀ n : Nat, (n : Int) ≤ m.L - 1 → (∃ k, 0 ≤ k ∧ k ≤ (n : Int) ∧ k + m.g k ≤ st ∧ ∀ j, k < j → j ≤ (n : Int) → st < j + m.g j) := by
    intro n
    induction n with
    | zero => exact fun _ => ⟨0, by omega, by omega, by unfold Msh.g; rw [if_pos rfl]; omega, fun j a b => by omega⟩
    | succ n ih =>
      intro hn
      obtain ⟨k, a, b, c, d⟩ := ih (by omega)
      by_cases hq : ((n + 1 : Nat) : Int) + m.g ((n + 1 : Nat) : Int) ≤ st
      · exact ⟨((n + 1 : Nat) : Int), by omega, by omega, hq, fun j x y => by omega⟩
      · refine ⟨k, a, by omega, c, fun j x y => ?_⟩
        by_cases e : j = ((n + 1 : Nat) : Int)
        · subst e; omega
        · exact d j x (by omega)
  obtain ⟨k, a, b, c, d⟩ := this (m.L - 1).toNat (by omega)
  exact ⟨k, a, by omega, c, fun j x y => d j x (by omega)⟩
theorem Msh.left_un {st k k' : Int} (a : m.Left st k) (b : m.Left st k') : k = k' := by
  obtain ⟨a0, a1, a2, a3⟩ := a
  obtain ⟨b0, b1, b2, b3⟩ := b
  rcases Int.lt_trichotomy k k' with h | h | h
  · have := a3 k' h b1; omega
  · exact h
  · have := b3 k h a1; omega
end
end Sd

namespace Sd
open PySem PySem.Spec L2
open PyProof.Rows (envOfC)

theorem coreHal_2 {i : List Int} (h : 2 ≤ i.length) : coreHal i = [(mshOf i).L, (mshOf i).R, (mshOf i).a, (mshOf i).b] := by unfold coreHal; rw [if_pos h]
/-- the halves, as the methods read them -/
theorem x_hal {X : Cx} {ρ : List Sl} {e : Expr} {i : List Int} {pos : Pos} (h : PE X e (tD ρ (coreD X.K i))) (hh : Hd X.K X.mg) (h2 : 2 ≤ i.length) (hb : attributeBase e "halves" X.env (eval e X.env) = eval e X.env := by rfl) : PE X (.Attribute e "halves" pos) (tD ρ (.tup [.int (mshOf i).L, .int (mshOf i).R, .int (mshOf i).a, .int (mshOf i).b])) :=
  x_is (x_fld (d := .tup (dInts (coreHal i))) (j := 4) h hh.c_core (hh.noat 97) rfl rfl hb) (by rw [coreHal_2 h2]; rfl)
def Msh.f (m : Msh) (c : Int) : Int := min (c * m.a) (m.L - 1 - (m.R - 1 - c) / m.b)
/-! ### TellCore.counts -/
def F_TellCore_counts (Y : Wo) (ds : List D) (r : Res) : Prop := ∃ (i : List Int) (st k : Int), ds = [coreD Y.K i, .int st] ∧ r = .ok (.tup [.int k, .int (st - k)]) ∧ SzB i ∧ 2 ≤ i.length ∧ 0 ≤ st ∧ Bd 1700 st ∧ (mshOf i).Left st k
theorem sc_TellCore_counts : FnScope ["self", "stage", "lefts", "rights", "left_size", "right_size", "whole", "over", "slow", "late", "left"] ["self", "stage"] (defScope s_TellCore_counts) := ⟨rfl, rfl, rfl, by decide +kernel, rfl, by decide +kernel, by decide +kernel⟩
theorem fo_TellCore_counts {Y : Wo} (hh : Y.hd) : FoM Y 1 "TellCore" "counts" ["self", "stage"] (F_TellCore_counts Y) := by
  have nd : (["self", "stage", "lefts", "rights", "left_size", "right_size", "whole", "over", "slow", "late", "left"] : List Str).Nodup := sc_TellCore_counts.nd
  refine mkM (k := 0) (N := ["self", "stage", "lefts", "rights", "left_size", "right_size", "whole", "over", "slow", "late", "left"]) hh 75 109 92 ds_TellCore_counts sc_TellCore_counts (fun _ _ _ _ _ _ us hl => match us, hl with | [_, _], _ => rfl) (by rintro ds r ⟨i, st, k, rfl, rfl, hi, h2, h0, hB, hk⟩; rfl) ?_
  rintro cdv A outer s H E ds r hr ⟨i, st, k, rfl, rfl, hi, h2, h0, hB, hk⟩
  have hm := mshOf_ok h2 hi
  have a2 := hm.a2
  have b2 := hm.b2
  refine s_seq (s_asg4 2 3 4 5 nd (x_hal (x_v 0) hh h2)) ?_
  refine r_when (t_eq (x_v 1) x_int rfl) (fun hc => ⟨?_, rfl⟩) (fun hc => ?_)
  · obtain rfl := of_decide_eq_true hc
    obtain rfl := Msh.left_zero hm hk
    exact r_ret (x_tup (a_cons x_int (a_cons x_int a_nil)) (Nat.le_of_ble_eq_true rfl)) sa
  have h1 : 1 ≤ st := by have := of_decide_eq_false hc; omega
  have e := Msh.left_eq hm h1 hk
  have q0 : 0 ≤ (st - 1) / ((mshOf i).a + 1) := Int.ediv_nonneg (by omega) (by omega)
  have qS : Sm ((st - 1) / ((mshOf i).a + 1)) := (hB.mono (by decide) : Sm st).le q0 (by have := Int.ediv_le_self ((mshOf i).a + 1) (show 0 ≤ st - 1 by omega); omega)
  have a1S : Sm ((mshOf i).a + 1) := (hm.aS.add (Bd.lit 1)).mono (by decide)
  have b1S : Sm ((mshOf i).b + 1) := (hm.bS.add (Bd.lit 1)).mono (by decide)
  refine s_seq (s_asg2 6 7 nd (x_divmodS hh.b_divmod (x_sub (x_v 1) x_int) (x_add (x_v 4) x_int) (by omega) a1S)) ?_
  refine s_seq (s_set (d := .int ((mshOf i).slow st)) 8 nd (x_is (x_add (x_add x_int (x_mulS (x_v 6) (x_v 4) qS hm.as)) (x_min hh.b_min rfl (x_v 7) (x_sub (x_v 4) x_int))) ?_)) ?_
  · congr 1
    unfold Msh.slow slowI
    omega
  refine s_seq (s_set (d := .int ((mshOf i).late st)) 9 nd (x_divS (x_add (x_add (x_sub (x_v 1) (x_v 3)) x_int) (x_mulS (x_v 5) (x_v 2) hm.bs hm.LS)) (x_add (x_v 5) x_int) (by omega) b1S)) ?_
  refine s_seq (s_set (d := .int k) 10 nd (x_is (x_min3 hh.b_min rfl (x_v 8) (x_v 9) (x_sub (x_v 2) x_int)) (by rw [← e]))) ?_
  exact r_ret (x_tup (a_cons (x_v 10) (a_cons (x_sub (x_v 1) (x_v 10)) a_nil)) (Nat.le_of_ble_eq_true rfl)) sa
/-! ### TellCore.left_begin -/
def F_TellCore_left_begin (Y : Wo) (ds : List D) (r : Res) : Prop := ∃ (i : List Int) (c : Int), ds = [coreD Y.K i, .int c] ∧ r = .ok (.int (c + (mshOf i).g c)) ∧ SzB i ∧ 2 ≤ i.length ∧ 1 ≤ c ∧ Bd 3990 c
theorem sc_TellCore_left_begin : FnScope ["self", "count", "lefts", "rights", "left_size", "right_size"] ["self", "count"] (defScope s_TellCore_left_begin) := ⟨rfl, rfl, rfl, by decide +kernel, rfl, by decide +kernel, by decide +kernel⟩
theorem fo_TellCore_left_begin {Y : Wo} (hh : Y.hd) : FoM Y 1 "TellCore" "left_begin" ["self", "count"] (F_TellCore_left_begin Y) := by
  have nd : (["self", "count", "lefts", "rights", "left_size", "right_size"] : List Str).Nodup := sc_TellCore_left_begin.nd
  refine mkM (k := 0) (N := ["self", "count", "lefts", "rights", "left_size", "right_size"]) hh 76 110 92 ds_TellCore_left_begin sc_TellCore_left_begin (fun _ _ _ _ _ _ us hl => match us, hl with | [_, _], _ => rfl) (by rintro ds r ⟨i, c, rfl, rfl, hi, h2, h1, hB⟩; rfl) ?_
  rintro cdv A outer s H E ds r hr ⟨i, c, rfl, rfl, hi, h2, h1, hB⟩
  have hm := mshOf_ok h2 hi
  have a2 := hm.a2
  refine s_seq (s_asg4 2 3 4 5 nd (x_hal (x_v 0) hh h2)) ?_
  refine r_ret (x_is (x_add (x_v 1) (x_max3 hh.b_max rfl x_int (x_divS (x_sub (x_v 1) x_int) (x_v 4) (by omega) hm.as) (x_sub (x_sub (x_v 3) x_int) (x_mul (x_v 5) (x_sub (x_v 2) (x_v 1)) hm.bS ((show Bd 1641 (mshOf i).L from hm.zl.bd).sub hB) (by decide))))) ?_) sa
  have : 0 ≤ (c - 1) / (mshOf i).a := Int.ediv_nonneg (by omega) (by omega)
  unfold Msh.g
  rw [if_neg (by omega)]
  congr 2
  show max (max 0 ((c - 1) / (mshOf i).a)) _ = max ((c - 1) / (mshOf i).a) _
  rw [Int.max_eq_right this]
/-! ### TellCore.right_begin -/
def F_TellCore_right_begin (Y : Wo) (ds : List D) (r : Res) : Prop := ∃ (i : List Int) (c : Int), ds = [coreD Y.K i, .int c] ∧ r = .ok (.int (c + (mshOf i).f c)) ∧ SzB i ∧ 2 ≤ i.length ∧ Bd 3990 c
theorem sc_TellCore_right_begin : FnScope ["self", "count", "lefts", "rights", "left_size", "right_size"] ["self", "count"] (defScope s_TellCore_right_begin) := ⟨rfl, rfl, rfl, by decide +kernel, rfl, by decide +kernel, by decide +kernel⟩
theorem fo_TellCore_right_begin {Y : Wo} (hh : Y.hd) : FoM Y 1 "TellCore" "right_begin" ["self", "count"] (F_TellCore_right_begin Y) := by
  have nd : (["self", "count", "lefts", "rights", "left_size", "right_size"] : List Str).Nodup := sc_TellCore_right_begin.nd
  refine mkM (k := 0) (N := ["self", "count", "lefts", "rights", "left_size", "right_size"]) hh 77 111 92 ds_TellCore_right_begin sc_TellCore_right_begin (fun _ _ _ _ _ _ us hl => match us, hl with | [_, _], _ => rfl) (by rintro ds r ⟨i, c, rfl, rfl, hi, h2, hB⟩; rfl) ?_
  rintro cdv A outer s H E ds r hr ⟨i, c, rfl, rfl, hi, h2, hB⟩
  have hm := mshOf_ok h2 hi
  have b2 := hm.b2
  refine s_seq (s_asg4 2 3 4 5 nd (x_hal (x_v 0) hh h2)) ?_
  exact r_ret (x_add (x_v 1) (x_min hh.b_min rfl (x_mul (x_v 1) (x_v 4) hB hm.aS (by decide)) (x_sub (x_sub (x_v 2) x_int) (x_divS (x_sub (x_sub (x_v 3) x_int) (x_v 1)) (x_v 5) (by omega) hm.bs)))) sa
/-! ### what show_on, show_back give -/
theorem ShQ.begI {s w v c : Int} (h : ShQ s w v c) : 0 ≤ begI s w v c ∧ Bd 3483 (begI s w v c) ∧ 0 ≤ spotI s v (c / (w * s)) ∧ spotI s v (c / (w * s)) ≤ s - 1 := by
  obtain ⟨p, q1, q2, q3, q4⟩ := h.facts
  have s2 := h.s2
  have w0 := h.w0
  have v0 := h.v0
  have v1 := h.v1
  have sp : 0 ≤ spotI s v (c / (w * s)) ∧ spotI s v (c / (w * s)) ≤ s - 1 := by unfold spotI; split <;> omega
  have p1 : 0 ≤ c / (w * s) * s := Int.mul_nonneg q2 (by omega)
  exact ⟨Int.mul_nonneg (by omega) (by omega), ((q3.mul h.bs).add q4).mul h.bw, sp⟩
theorem showOn_ge {s w v c many x : Int} (h : ShQ s w v c) (e : showOn s w v c many = some x) : c ≤ x ∧ Bd 3990 x := by
  obtain ⟨p, q1, q2, q3, q4⟩ := h.facts
  obtain ⟨b0, b1, sp0, sp1⟩ := h.begI
  have bs := h.bs
  have bw := h.bw
  have c0 := h.c0
  unfold showOn at e
  split at e
  · cases e
    refine ⟨by omega, ?_⟩
    rcases Int.le_total c (Sd.begI s w v c) with z | z
    · rw [Int.max_eq_right z]; exact b1.mono (by decide)
    · rw [Int.max_eq_left z]; exact h.bc.mono (by decide)
  · split at e
    · cases e
      have el := Int.mul_ediv_add_emod c (w * s)
      have em := Int.emod_lt_of_pos c p
      refine ⟨?_, (((((((q3.add (Bd.lit 1)).mul bs).add bs).sub (Bd.lit 1)).sub q4).mul bw).mono (by decide))⟩
      have h1 : (c / (w * s) + 1) * s ≤ (c / (w * s) + 1) * s + s - 1 - spotI s v (c / (w * s)) := by omega
      have h2 := Int.mul_le_mul_of_nonneg_right h1 (show 0 ≤ w by have := h.w0; omega)
      have h3 : (c / (w * s) + 1) * s * w = w * s * (c / (w * s)) + w * s := by
        rw [Int.mul_assoc, Int.mul_comm s w, Int.add_mul, Int.one_mul, Int.mul_comm (c / (w * s)) (w * s)]
      omega
    · cases e
theorem showBack_le {s w v c x : Int} (h : ShQ s w v c) (e : showBack s w v c = some x) : 0 ≤ x ∧ x ≤ c ∧ Bd 3980 x := by
  obtain ⟨p, q1, q2, q3, q4⟩ := h.facts
  obtain ⟨b0, b1, sp0, sp1⟩ := h.begI
  have w0 := h.w0
  have c0 := h.c0
  have fin : ∀ x, 0 ≤ x → x ≤ c → 0 ≤ x ∧ x ≤ c ∧ Bd 3980 x := fun x h0 h1 => ⟨h0, h1, (h.bc.le h0 h1).mono (by decide)⟩
  unfold showBack at e
  split at e
  · cases e
    exact fin _ (by omega) (by omega)
  · split at e
    · cases e
    · rename_i hl
      cases e
      have el := Int.mul_ediv_add_emod c (w * s)
      have em := Int.emod_nonneg c (show w * s ≠ 0 by omega)
      have s2 := h.s2
      have k1 : 1 ≤ c / (w * s) := by omega
      have h0 : 0 ≤ (c / (w * s) - 1) * s := Int.mul_nonneg (by omega) (by omega)
      have h1 : 1 * w ≤ ((c / (w * s) - 1) * s + s - spotI s v (c / (w * s))) * w := Int.mul_le_mul_of_nonneg_right (by omega) (by omega)
      have h2 : ((c / (w * s) - 1) * s + s - spotI s v (c / (w * s))) * w ≤ c / (w * s) * s * w := Int.mul_le_mul_of_nonneg_right (by rw [Int.sub_mul, Int.one_mul]; omega) (by omega)
      have h3 : c / (w * s) * s * w = w * s * (c / (w * s)) := by
        rw [Int.mul_assoc, Int.mul_comm s w, Int.mul_comm]
      exact fin _ (by omega) (by omega)
def coreNext (i : List Int) (p : Nat) (v st k : Int) : Option Int :=
  if i.length = 1 then (if st ≤ v then some v else none)
  else if p < gapI i + 1 then (match showOn (i.getD p 0) (widI i (gapI i + 1) p) v k (mshOf i).L with
    | none => none
    | some c => if c = k then some st else some (c + (mshOf i).g c))
  else (match showOn (i.getD p 0) (widI i (gapI i + 1) p) v (st - k) (mshOf i).R with
    | none => none
    | some c => if c = st - k then some st else some (c + (mshOf i).f c))
def coreLast (i : List Int) (p : Nat) (v st k : Int) : Option Int :=
  if i.length = 1 then (if v ≤ st then some v else none)
  else if p < gapI i + 1 then (match showBack (i.getD p 0) (widI i (gapI i + 1) p) v k with
    | none => none
    | some c => if c = k then some st else some (c + 1 + (mshOf i).g (c + 1) - 1))
  else (match showBack (i.getD p 0) (widI i (gapI i + 1) p) v (st - k) with
    | none => none
    | some c => if c = st - k then some st else some (c + 1 + (mshOf i).f (c + 1) - 1))
structure CoQ (i : List Int) (p : Nat) (v st k : Int) : Prop where
  sz : SzB i
  p0 : p < i.length
  v0 : 0 ≤ v
  v1 : v < i.getD p 0
  s0 : 0 ≤ st
  sB : Bd 1700 st
  lf : 2 ≤ i.length → (mshOf i).Left st k
theorem CoQ.sh {i : List Int} {p : Nat} {v st k : Int} (h : CoQ i p v st k) (h2 : 2 ≤ i.length) : ShQ (i.getD p 0) (widI i (gapI i + 1) p) v k ∧ ShQ (i.getD p 0) (widI i (gapI i + 1) p) v (st - k) := by
  obtain ⟨k0, k1, k2, k3⟩ := h.lf h2
  have hm := mshOf_ok h2 h.sz
  have gn := Msh.g_nn hm k0
  have w := wid_sm h.sz (gapI i + 1) p
  have g := h.sz.get h.p0
  rw [← getD_get h.p0] at g
  exact ⟨⟨g.1, w.1, h.v0, h.v1, k0, g.2, w.2.mono (by decide), h.sB.le k0 (by omega)⟩, ⟨g.1, w.1, h.v0, h.v1, by omega, g.2, w.2.mono (by decide), h.sB.le (by omega) (by omega)⟩⟩
theorem coreWid_at {i : List Int} (h2 : 2 ≤ i.length) {p : Nat} (hp : p < i.length) : atI (dInts (coreWid i)) (p : Int) = some (.int (widI i (gapI i + 1) p)) := by
  unfold coreWid
  rw [if_pos h2]
  exact mapI_at (f := widI i (gapI i + 1)) hp
/-! ### TellCore.next_of -/
def F_TellCore_next_of (Y : Wo) (ds : List D) (r : Res) : Prop := ∃ (i : List Int) (p : Nat) (v st k : Int), ds = [coreD Y.K i, .int p, .int v, .int st] ∧ r = .ok (optD (coreNext i p v st k)) ∧ CoQ i p v st k
theorem sc_TellCore_next_of : FnScope ["self", "place", "value", "stage", "left", "right", "size", "width", "count"] ["self", "place", "value", "stage"] (defScope s_TellCore_next_of) := ⟨rfl, rfl, rfl, by decide +kernel, rfl, by decide +kernel, by decide +kernel⟩
theorem fo_TellCore_next_of {Y : Wo} (hh : Y.hd) : FoM Y 2 "TellCore" "next_of" ["self", "place", "value", "stage"] (F_TellCore_next_of Y) := by
  have nd : (["self", "place", "value", "stage", "left", "right", "size", "width", "count"] : List Str).Nodup := sc_TellCore_next_of.nd
  refine mkM (k := 1) (N := ["self", "place", "value", "stage", "left", "right", "size", "width", "count"]) hh 78 112 92 ds_TellCore_next_of sc_TellCore_next_of (fun _ _ _ _ _ _ us hl => match us, hl with | [_, _, _, _], _ => rfl) (by rintro ds r ⟨i, p, v, st, k, rfl, rfl, h⟩; rfl) ?_
  rintro cdv A outer s H E ds r hr ⟨i, p, v, st, k, rfl, rfl, h⟩
  have hsz := h.sz
  have h40 := hsz.len
  have hp := h.p0
  refine r_when (t_eq (x_lenI hh.b_len (x_fld (d := .tup (dInts i)) (j := 0) (x_v 0) hh.c_core (hh.noat 93) rfl rfl)) x_int rfl) (fun hc => ⟨?_, rfl⟩) (fun hc => ?_)
  · have h1 : i.length = 1 := by have := of_decide_eq_true hc; omega
    refine r_ret (x_if (t_ge (x_v 2) (x_v 3)) (fun h2 => x_is (x_v 2) ?_) (fun h2 => x_is x_non ?_)) sa
    · unfold coreNext; rw [if_pos h1, ifT h2]; rfl
    · unfold coreNext; rw [if_pos h1, ifF h2]; rfl
  have h1 : i.length ≠ 1 := by have := of_decide_eq_false hc; omega
  have h2 : 2 ≤ i.length := by omega
  obtain ⟨q1, q2⟩ := h.sh h2
  refine s_seq (s_asg2 (a := .int k) (b := .int (st - k)) 4 5 nd (x_m (fo_TellCore_counts hh) hr (x_v 0) (a_cons (x_v 3) a_nil) ⟨i, st, k, rfl, rfl, hsz, h2, h.s0, h.sB, h.lf h2⟩)) ?_
  refine s_seq (s_par (d1 := .int (i.getD p 0)) (d2 := .int (widI i (gapI i + 1) p)) 6 7 nd (a_cons (x_is (x_ixI (n := p) (x_fld (d := .tup (dInts i)) (j := 0) (x_v 0) hh.c_core (hh.noat 93) rfl rfl) (x_v 1) rfl hp) (by rw [getD_get hp])) (a_cons (x_ix (ds := dInts (coreWid i)) (x_fld (d := .lst (dInts (coreWid i))) (j := 5) (x_v 0) hh.c_core (hh.noat 98) rfl rfl) (x_v 1) rfl (coreWid_at h2 hp)) a_nil))) ?_
  have eg : coreGap i = (gapI i : Int) + 1 := by unfold coreGap; rw [if_pos h2]
  refine r_when (t_lt (x_v 1) (x_fld (d := .int (coreGap i)) (j := 3) (x_v 0) hh.c_core (hh.noat 96) rfl rfl)) (fun hg => ⟨?_, by generalize coreNext i p v st k = z; cases z <;> rfl⟩) (fun hg => ?_)
  · have hg' : p < gapI i + 1 := by have := of_decide_eq_true hg; omega
    refine s_seq (s_set (d := optD (showOn (i.getD p 0) (widI i (gapI i + 1) p) v k (mshOf i).L)) 8 nd (x_f (fo_show_on hh) hr (a_cons (x_v 6) (a_cons (x_v 7) (a_cons (x_v 2) (a_cons (x_v 4) (a_cons (x_ix (ds := [.int (mshOf i).L, .int (mshOf i).R, .int (mshOf i).a, .int (mshOf i).b]) (x_hal (x_v 0) hh h2) x_int rfl rfl) a_nil))))) ⟨_, _, _, _, _, rfl, rfl, q1⟩)) ?_
    unfold coreNext
    rw [if_neg h1, if_pos hg']
    cases e : showOn (i.getD p 0) (widI i (gapI i + 1) p) v k (mshOf i).L with
    | none =>
      refine r_take (t_is (t_W (w_or (c := true) (c' := true) (t_is (t_isN (x_v 8)) rfl) (fun h => by cases h))) rfl) (r_ret (x_ifT (t_is (t_isN (x_v 8)) rfl) x_non pe_nevr) sa) rfl
    | some c =>
      obtain ⟨ge, bd⟩ := showOn_ge q1 e
      refine r_when (t_is (t_W (w_or (c := false) (t_is (t_isN (x_v 8)) rfl) (fun _ => w_or1 (t_eq (x_v 8) (x_v 4) rfl)))) (Bool.false_or _)) (fun hq => ⟨r_ret (x_ifF (t_is (t_isN (x_v 8)) rfl) (x_is (x_v 3) ?_) pe_nevr) sa, rfl⟩) (fun hq => r_ret (x_is (x_m (fo_TellCore_left_begin hh) hr (x_v 0) (a_cons (x_v 8) a_nil) ⟨i, c, rfl, rfl, hsz, h2, ?_, bd⟩) ?_) sa)
      · show D.int st = optD (if c = k then some st else some (c + (mshOf i).g c)); rw [ifT hq]; rfl
      · have := of_decide_eq_false hq; have := (h.lf h2).1; omega
      · show _ = optD (if c = k then some st else some (c + (mshOf i).g c)); rw [ifF hq]; rfl
  · have hg' : ¬ p < gapI i + 1 := by have := of_decide_eq_false hg; omega
    refine s_seq (s_set (d := optD (showOn (i.getD p 0) (widI i (gapI i + 1) p) v (st - k) (mshOf i).R)) 8 nd (x_f (fo_show_on hh) hr (a_cons (x_v 6) (a_cons (x_v 7) (a_cons (x_v 2) (a_cons (x_v 5) (a_cons (x_ix (ds := [.int (mshOf i).L, .int (mshOf i).R, .int (mshOf i).a, .int (mshOf i).b]) (x_hal (x_v 0) hh h2) x_int rfl rfl) a_nil))))) ⟨_, _, _, _, _, rfl, rfl, q2⟩)) ?_
    unfold coreNext
    rw [if_neg h1, if_neg hg']
    cases e : showOn (i.getD p 0) (widI i (gapI i + 1) p) v (st - k) (mshOf i).R with
    | none =>
      refine r_take (t_is (t_W (w_or (c := true) (c' := true) (t_is (t_isN (x_v 8)) rfl) (fun h => by cases h))) rfl) (r_ret (x_ifT (t_is (t_isN (x_v 8)) rfl) x_non pe_nevr) sa) rfl
    | some c =>
      obtain ⟨ge, bd⟩ := showOn_ge q2 e
      refine r_when (t_is (t_W (w_or (c := false) (t_is (t_isN (x_v 8)) rfl) (fun _ => w_or1 (t_eq (x_v 8) (x_v 5) rfl)))) (Bool.false_or _)) (fun hq => ⟨r_ret (x_ifF (t_is (t_isN (x_v 8)) rfl) (x_is (x_v 3) ?_) pe_nevr) sa, rfl⟩) (fun hq => r_ret (x_is (x_m (fo_TellCore_right_begin hh) hr (x_v 0) (a_cons (x_v 8) a_nil) ⟨i, c, rfl, rfl, hsz, h2, bd⟩) ?_) sa)
      · show D.int st = optD (if c = st - k then some st else some (c + (mshOf i).f c)); rw [ifT hq]; rfl
      · show _ = optD (if c = st - k then some st else some (c + (mshOf i).f c)); rw [ifF hq]; rfl
/-! ### TellCore.last_of -/
def F_TellCore_last_of (Y : Wo) (ds : List D) (r : Res) : Prop := ∃ (i : List Int) (p : Nat) (v st k : Int), ds = [coreD Y.K i, .int p, .int v, .int st] ∧ r = .ok (optD (coreLast i p v st k)) ∧ CoQ i p v st k
theorem sc_TellCore_last_of : FnScope ["self", "place", "value", "stage", "left", "right", "size", "width", "count"] ["self", "place", "value", "stage"] (defScope s_TellCore_last_of) := ⟨rfl, rfl, rfl, by decide +kernel, rfl, by decide +kernel, by decide +kernel⟩
theorem fo_TellCore_last_of {Y : Wo} (hh : Y.hd) : FoM Y 2 "TellCore" "last_of" ["self", "place", "value", "stage"] (F_TellCore_last_of Y) := by
  have nd : (["self", "place", "value", "stage", "left", "right", "size", "width", "count"] : List Str).Nodup := sc_TellCore_last_of.nd
  refine mkM (k := 1) (N := ["self", "place", "value", "stage", "left", "right", "size", "width", "count"]) hh 79 113 92 ds_TellCore_last_of sc_TellCore_last_of (fun _ _ _ _ _ _ us hl => match us, hl with | [_, _, _, _], _ => rfl) (by rintro ds r ⟨i, p, v, st, k, rfl, rfl, h⟩; rfl) ?_
  rintro cdv A outer s H E ds r hr ⟨i, p, v, st, k, rfl, rfl, h⟩
  have hsz := h.sz
  have h40 := hsz.len
  have hp := h.p0
  refine r_when (t_eq (x_lenI hh.b_len (x_fld (d := .tup (dInts i)) (j := 0) (x_v 0) hh.c_core (hh.noat 93) rfl rfl)) x_int rfl) (fun hc => ⟨?_, rfl⟩) (fun hc => ?_)
  · have h1 : i.length = 1 := by have := of_decide_eq_true hc; omega
    refine r_ret (x_if (t_le (x_v 2) (x_v 3)) (fun h2 => x_is (x_v 2) ?_) (fun h2 => x_is x_non ?_)) sa
    · unfold coreLast; rw [if_pos h1, ifT h2]; rfl
    · unfold coreLast; rw [if_pos h1, ifF h2]; rfl
  have h1 : i.length ≠ 1 := by have := of_decide_eq_false hc; omega
  have h2 : 2 ≤ i.length := by omega
  obtain ⟨q1, q2⟩ := h.sh h2
  refine s_seq (s_asg2 (a := .int k) (b := .int (st - k)) 4 5 nd (x_m (fo_TellCore_counts hh) hr (x_v 0) (a_cons (x_v 3) a_nil) ⟨i, st, k, rfl, rfl, hsz, h2, h.s0, h.sB, h.lf h2⟩)) ?_
  refine s_seq (s_par (d1 := .int (i.getD p 0)) (d2 := .int (widI i (gapI i + 1) p)) 6 7 nd (a_cons (x_is (x_ixI (n := p) (x_fld (d := .tup (dInts i)) (j := 0) (x_v 0) hh.c_core (hh.noat 93) rfl rfl) (x_v 1) rfl hp) (by rw [getD_get hp])) (a_cons (x_ix (ds := dInts (coreWid i)) (x_fld (d := .lst (dInts (coreWid i))) (j := 5) (x_v 0) hh.c_core (hh.noat 98) rfl rfl) (x_v 1) rfl (coreWid_at h2 hp)) a_nil))) ?_
  have eg : coreGap i = (gapI i : Int) + 1 := by unfold coreGap; rw [if_pos h2]
  refine r_when (t_lt (x_v 1) (x_fld (d := .int (coreGap i)) (j := 3) (x_v 0) hh.c_core (hh.noat 96) rfl rfl)) (fun hg => ⟨?_, by generalize coreLast i p v st k = z; cases z <;> rfl⟩) (fun hg => ?_)
  · have hg' : p < gapI i + 1 := by have := of_decide_eq_true hg; omega
    refine s_seq (s_set (d := optD (showBack (i.getD p 0) (widI i (gapI i + 1) p) v k)) 8 nd (x_f (fo_show_back hh) hr (a_cons (x_v 6) (a_cons (x_v 7) (a_cons (x_v 2) (a_cons (x_v 4) a_nil)))) ⟨_, _, _, _, rfl, rfl, q1⟩)) ?_
    unfold coreLast
    rw [if_neg h1, if_pos hg']
    cases e : showBack (i.getD p 0) (widI i (gapI i + 1) p) v k with
    | none =>
      refine r_take (t_is (t_W (w_or (c := true) (c' := true) (t_is (t_isN (x_v 8)) rfl) (fun h => by cases h))) rfl) (r_ret (x_ifT (t_is (t_isN (x_v 8)) rfl) x_non pe_nevr) sa) rfl
    | some c =>
      obtain ⟨c0, ge, bd⟩ := showBack_le q1 e
      refine r_when (t_is (t_W (w_or (c := false) (t_is (t_isN (x_v 8)) rfl) (fun _ => w_or1 (t_eq (x_v 8) (x_v 4) rfl)))) (Bool.false_or _)) (fun hq => ⟨r_ret (x_ifF (t_is (t_isN (x_v 8)) rfl) (x_is (x_v 3) ?_) pe_nevr) sa, rfl⟩) (fun hq => r_ret (x_is (x_sub (x_m (fo_TellCore_left_begin hh) hr (x_v 0) (a_cons (x_add (x_v 8) x_int) a_nil) ⟨i, c + 1, rfl, rfl, hsz, h2, by omega, (bd.add (Bd.lit 1)).mono (by decide)⟩) x_int) ?_) sa)
      · show D.int st = optD (if c = k then some st else some (c + 1 + (mshOf i).g (c + 1) - 1)); rw [ifT hq]; rfl
      · show _ = optD (if c = k then some st else some (c + 1 + (mshOf i).g (c + 1) - 1)); rw [ifF hq]; rfl
  · have hg' : ¬ p < gapI i + 1 := by have := of_decide_eq_false hg; omega
    refine s_seq (s_set (d := optD (showBack (i.getD p 0) (widI i (gapI i + 1) p) v (st - k))) 8 nd (x_f (fo_show_back hh) hr (a_cons (x_v 6) (a_cons (x_v 7) (a_cons (x_v 2) (a_cons (x_v 5) a_nil)))) ⟨_, _, _, _, rfl, rfl, q2⟩)) ?_
    unfold coreLast
    rw [if_neg h1, if_neg hg']
    cases e : showBack (i.getD p 0) (widI i (gapI i + 1) p) v (st - k) with
    | none =>
      refine r_take (t_is (t_W (w_or (c := true) (c' := true) (t_is (t_isN (x_v 8)) rfl) (fun h => by cases h))) rfl) (r_ret (x_ifT (t_is (t_isN (x_v 8)) rfl) x_non pe_nevr) sa) rfl
    | some c =>
      obtain ⟨c0, ge, bd⟩ := showBack_le q2 e
      refine r_when (t_is (t_W (w_or (c := false) (t_is (t_isN (x_v 8)) rfl) (fun _ => w_or1 (t_eq (x_v 8) (x_v 5) rfl)))) (Bool.false_or _)) (fun hq => ⟨r_ret (x_ifF (t_is (t_isN (x_v 8)) rfl) (x_is (x_v 3) ?_) pe_nevr) sa, rfl⟩) (fun hq => r_ret (x_is (x_sub (x_m (fo_TellCore_right_begin hh) hr (x_v 0) (a_cons (x_add (x_v 8) x_int) a_nil) ⟨i, c + 1, rfl, rfl, hsz, h2, (bd.add (Bd.lit 1)).mono (by decide)⟩) x_int) ?_) sa)
      · show D.int st = optD (if c = st - k then some st else some (c + 1 + (mshOf i).f (c + 1) - 1)); rw [ifT hq]; rfl
      · show _ = optD (if c = st - k then some st else some (c + 1 + (mshOf i).f (c + 1) - 1)); rw [ifF hq]; rfl
end Sd

namespace Sd
open PySem PySem.Spec L2
open PyProof.Rows (envOfC)

/-! ### TellNest -/
def nestKs : List Str := ["outer", "core", "many", "spans"]
def spanI (o : List Int) (cm : Int) (d : Nat) : Int := cm * pr (o.drop (d + 1))
def spansL (o : List Int) (cm : Int) : List Int := (List.range o.length).map (spanI o cm)
def nestFs (K : PySem.W.Frag) (o i : List Int) : List D := [.tup (dInts o), coreD K i, .int ((corOf i).many * pr o), .lst (dInts (spansL o (corOf i).many))]
def planD (K : PySem.W.Frag) (o i : List Int) : D := .ins (He.ga K "TellNest") nestKs (nestFs K o i)
theorem tg_fldN {X : Cx} {ρ : List Sl} {d : D} {ds : List D} {ks : List Str} {C : Addr} {n : Nat} {s : Sl} {f : Str} (h0 : ρ[n]? = some s) (hs : s = .own (.ins C ks ds) ∨ s = .box (.ins C ks ds)) (cl : Cls X.K C) (na : NoAttr X.K C f) (hk : ks.length < 1000) (hf : fieldIx f ks = none) :
    TgD (fun v σ H Q => tVar n σ H fun x H1 => ∃ a C dx fs, x = .ref a ∧ H1 a = some (.ins C dx fs) ∧ Cls X.K C ∧ NoAttr X.K C f ∧ fs.length < 1000 ∧ Q σ (upd H1 a (.ins C dx (putF f v fs)))) ρ d (ρ.set n (reSl s (.ins C (ks ++ [f]) (ds ++ [d])))) := fun B M0 b P σ H v S uP Q k =>
  sf_run (D := { nx := Q, rt := fun _ _ => False }) h0 hs cl na hk (sf_new hf) B M0 b P σ H v S uP k
abbrev nFs (to : Addr) (vc : V) (m : Int) (p : Addr) : List (Str × V) := [("outer", V.ref to), ("core", vc), ("many", .int m), ("spans", .ref p)]
abbrev nFs3 (to : Addr) (vc : V) (m : Int) : List (Str × V) := [("outer", V.ref to), ("core", vc), ("many", .int m)]
def spF0 (o : List Int) (cm : Int) (j d : Nat) : Int := if o.length - j ≤ d then spanI o cm d else 0
theorem map_set_r {n p : Nat} {f g : Nat → Int} {v : Int} (h : ∀ q, q < n → g q = if q = p then v else f q) : (((List.range n).map f).map V.int).set p (.int v) = ((List.range n).map g).map V.int := by
  apply List.ext_getElem?
  intro i
  rw [List.getElem?_set]
  by_cases hi : i < n
  · simp only [List.getElem?_map, List.getElem?_range hi, Option.map_some, List.length_map, List.length_range]
    rw [h i hi]
    by_cases e : p = i
    · subst e; rw [if_pos rfl, if_pos hi, if_pos rfl]
    · rw [if_neg e, if_neg (Ne.symm e)]
  · have e0 : (List.range n)[i]? = none := List.getElem?_eq_none (by simp; omega)
    simp only [List.getElem?_map, e0, Option.map_none, List.length_map, List.length_range]
    by_cases e : p = i
    · subst e; rw [if_pos rfl, if_neg hi]
    · rw [if_neg e]
/-! ### TellNest.__init__ -/
def F_TellNest_init (Y : Wo) (ds : List D) (ks : List Str) (fs : List D) : Prop := ∃ o i : List Int, ds = [nestD o i] ∧ ks = nestKs ∧ fs = nestFs Y.K o i ∧ SzB o ∧ SzB i ∧ Bd 1700 (corOf i).many
theorem sc_TellNest_init : FnScope ["self", "nest", "inner", "dial"] ["self", "nest"] (defScope s_TellNest_init) := ⟨rfl, rfl, rfl, by decide +kernel, rfl, by decide +kernel, by decide +kernel⟩
theorem fo_TellNest_init {Y : Wo} (hh : Y.hd) : FoI Y 9 "TellNest" ["self", "nest"] (F_TellNest_init Y) := by
  have nd : (["self", "nest", "inner", "dial"] : List Str).Nodup := sc_TellNest_init.nd
  refine mkI (k := 8) (N := ["self", "nest", "inner", "dial"]) hh 80 105 75 ds_TellNest_init sc_TellNest_init (fun _ _ _ _ _ _ us hl => match us, hl with | [_, _], _ => rfl) (by rintro ds ks fs ⟨o, i, rfl, rfl, rfl, ho, hi, hM⟩; rfl) ?_
  rintro cdv A outer s H E ds ks fs hr ⟨o, i, rfl, rfl, rfl, ho, hi, hM⟩
  refine ⟨[.any, .any, .any], ?_⟩
  have hc := corOf_ok hi
  have hp := Cor.many_pos hc
  have l1 := ho.len
  have nn : 4 = 4 := rfl
  refine s_seq (s_asg (ρ' := [.box (.ins (He.ga Y.K "TellNest") ["outer"] [.tup (dInts o)]), .val (nestD o i), .val (.tup (dInts i)), .any]) (x_v 1) (pg_tup rfl (pgs_cons (pg_fld (pe_var (i := 0) rfl (Or.inl rfl) (by decide) (by decide))) (pgs_cons (pg_name nd (i := 2) rfl (Or.inl rfl)) pgs_nil)) rfl rfl) (tg_tup (tgs_cons (tg_fldN (s := .box (.ins (He.ga Y.K "TellNest") [] [])) rfl (.inr rfl) hh.c_nest (hh.noat 101) (by decide) rfl) (tgs_cons tg_name tgs_nil)) rfl)) ?_
  refine s_seq (s_fldN (d := coreD Y.K i) 0 (x_mk (fo_TellCore_init hh) hr (a_cons (x_v 2) a_nil) ⟨i, rfl, rfl, rfl, hi⟩) rfl (.inr rfl) hh.c_nest (hh.noat 102) (by decide)) ?_
  refine s_seq (s_fldN (d := .int (corOf i).many) 0 (x_fld (j := 1) (x_fldM (d := coreD Y.K i) 0 1 rfl (.inr rfl) hh.c_nest (hh.noat 102)) hh.c_core (hh.noat 94) rfl rfl) rfl (.inr rfl) hh.c_nest (hh.noat 103) (by decide)) ?_
  refine pss_imp (pss_cons (ps_fld (pv 0) (pe_op op_rep (pe_lst (pa_cons pe_int pa_nil)) (pe_callB call_len_seq rfl hh.b_len PySem.boot_len (pa_cons (pe_fld (pv 0) rfl) pa_nil))) rfl) (pss_cons (ps_for (passes_of rfl) rfl (pi_range3 rfl hh.b_range (pa_cons (pe_op op_sub (pe_callB call_len_seq rfl hh.b_len PySem.boot_len (pa_cons (pe_fld (pv 0) rfl) pa_nil)) pe_int) (pa_cons (pe_un un_neg pe_int) (pa_cons (pe_un un_neg pe_int) pa_nil)))) (pg_name nd (i := 3) rfl (Or.inl rfl)) (pss_cons (ps_asg (pe_fld (pv 0) rfl) (pg_sub (pe_fld (pv 0) rfl) (pv 3) set_list)) (pss_cons (ps_fld (pv 0) (pe_op op_mulW (pe_fld (pv 0) rfl) (pe_ix ix_seq (pe_fld (pv 0) rfl) (pv 3) (fun _ _ => rfl))) rfl) pss_nil))) pss_nil)) (fun D σ H ⟨B, M0, b, P, S, k⟩ => ?_)
  obtain ⟨a, dx, xs, ha, hx, hxl, S1⟩ := S.mutI (n := 0) rfl (.inr rfl)
  obtain ⟨M, O⟩ := S1.opn
  obtain ⟨vo, vc, vm, exs, avo, avc, avm⟩ := atL_3 O.p.1
  have evm : vm = .int (corOf i).many := avm
  subst evm
  subst exs
  obtain ⟨to, xo, evo, hto, axo⟩ := avo
  have exo := axo.ints
  subst exo
  subst evo
  obtain ⟨ma, b1, b2⟩ : M a = none ∧ b = some a ∧ B a ≠ none := by
    obtain ⟨a', h1, h2, h3, _⟩ := O.s 0 _ rfl
    rw [ha] at h1; cases h1
    exact ⟨h2, h3.1, h3.2⟩
  have hfs : (["outer", "core", "many"] : List Str).zip [V.ref to, vc, V.int (corOf i).many] = (nFs3 to vc (corOf i).many) := rfl
  have hx' : H a = some (.ins (He.ga Y.K "TellNest") dx (nFs3 to vc (corOf i).many)) := hx
  have atu : ∀ {h : Hp}, Ex M h → SqT Y.K h to (o.map V.int) := fun e => .inl (e.rd hto)
  refine ⟨by show 1 ≤ sizeLine; decide, fun l hl => ?_⟩
  have nal : a ≠ l := fun z => by rw [z, hl] at hx'; cases hx'
  have e1 : Ex M (upd H l (.lst [.int 0])) := fun y u hy => by rw [upd_ne (fun z => by rw [z, O.c.sub.free hl] at hy; cases hy)]; exact O.c.sub y u hy
  refine ⟨.ref a, ha, a, _, dx, _, .ref to, rfl, by rw [upd_ne nal]; exact hx', hh.c_nest, hh.noat 101, rfl, to, o.map V.int, rfl, .inr (atu e1), ?_⟩
  refine ⟨l, _, [.int 0], rfl, rfl, upd_same, by simp only [List.length_map]; omega, by simp only [List.length_map]; omega, by simp only [List.length_map, List.length_singleton, Int.toNat_natCast, Nat.one_mul]; exact Nat.le_trans l1 (by decide), fun p hp0 => ?_⟩
  have npl : p ≠ l := fun z => by rw [z, upd_same] at hp0; cases hp0
  have hp1 : H p = none := by rw [upd_ne npl] at hp0; exact hp0
  have nap : a ≠ p := fun z => by rw [z, hp1] at hx'; cases hx'
  refine ⟨.ref a, ha, a, _, dx, _, rfl, by rw [upd_ne nap, upd_ne nal]; exact hx', hh.c_nest, hh.noat 104, (by exact (show 3 < 1000 by decide)), ?_⟩
  rw [show putF "spans" (V.ref p) (nFs3 to vc (corOf i).many) = (nFs to vc ((corOf i).many) p) from putF_no (f := "spans") (ks := ["outer", "core", "many"]) (xs := [V.ref to, vc, .int (corOf i).many]) rfl rfl]
  dsimp only
  have eN : (List.replicate ((o.map V.int).length : Int).toNat [V.int 0]).flatten = ((List.range o.length).map (spF0 o (corOf i).many 0)).map V.int := by
    have h1 : (List.replicate o.length [V.int 0]).flatten = List.replicate o.length (V.int 0) := by
      generalize o.length = q
      induction q with
      | zero => rfl
      | succ q ih => rw [List.replicate_succ, List.flatten_cons, ih]; rfl
    rw [List.length_map, Int.toNat_natCast, h1]
    apply List.ext_getElem
    · simp
    · intro q h1 h2
      have hq : q < o.length := by simpa using h1
      simp only [List.getElem_replicate, List.getElem_map, List.getElem_range]
      unfold spF0
      rw [if_neg (by omega)]
  rw [eN]
  generalize hH0 : upd (upd (upd H l (.lst [.int 0])) p (.lst (((List.range o.length).map (spF0 o (corOf i).many 0)).map V.int))) a (.ins (He.ga Y.K "TellNest") dx (nFs to vc ((corOf i).many) p)) = H0
  have k1 : H0 a = some (.ins (He.ga Y.K "TellNest") dx (nFs to vc ((corOf i).many) p)) := by rw [← hH0, upd_same]
  have k2 : H0 p = some (.lst (((List.range o.length).map (spF0 o (corOf i).many 0)).map V.int)) := by rw [← hH0, upd_ne nap.symm, upd_same]
  have k3 : ∀ y u, y ≠ a → y ≠ p → H y = some u → H0 y = some u := fun y u h1 h2 h3 => by
    rw [← hH0, upd_ne h1, upd_ne h2, upd_ne (fun z => by rw [z, hl] at h3; cases h3)]; exact h3
  have mp : M p = none := O.c.sub.free hp1
  have ex0 : ∀ {h : Hp}, (∀ y u, y ≠ a → y ≠ p → H y = some u → h y = some u) → Ex M h := fun {h} k y u hy => k y u (fun z => by rw [z, ma] at hy; cases hy) (fun z => by rw [z, mp] at hy; cases hy) (O.c.sub y u hy)
  refine ⟨.ref a, ha, a, _, dx, _, .ref to, rfl, k1, hh.c_nest, hh.noat 101, rfl, to, o.map V.int, rfl, .inr (atu (ex0 k3)), ?_⟩
  refine ⟨_, _, rfl, rfl, 1, rfl, 1, rfl, ?_⟩
  refine ⟨(o.map V.int).length - 1, -1, -1, _, rfl, RgC.neg (by simp only [List.length_map]; omega) (by simp only [List.length_map]; omega) (by omega) (by omega), ?_⟩
  have en : (((o.map V.int).length : Int) - 1 - -1).toNat = o.length := by simp only [List.length_map]; omega
  rw [en]
  have el : ((o.map V.int).length : Int) = o.length := by rw [List.length_map]
  rw [el]
  refine ⟨fun j q σ' H' => q = o.length - j ∧ j ≤ o.length ∧ (∀ s, s ≠ 3 → σ'[s]? = σ[s]?) ∧ σ'.length = σ.length ∧ H' a = some (.ins (He.ga Y.K "TellNest") dx (nFs to vc (((corOf i).many * pr (o.drop (o.length - j)))) p)) ∧ H' p = some (.lst (((List.range o.length).map (spF0 o (corOf i).many j)).map V.int)) ∧ ∀ y u, y ≠ a → y ≠ p → H y = some u → H' y = some u, ⟨o.length, rfl, Nat.zero_le _, fun _ _ => rfl, rfl, ?_, k2, k3⟩, ?_⟩
  · rw [k1, Nat.sub_zero, List.drop_length]; simp [pr]
  rintro j q σ' H' ⟨rfl, hj, g1, g2, g3, g4, g5⟩
  by_cases hlt : j < o.length
  · refine .inr ⟨hlt, fun σ2 H2 => (∀ s, s ≠ 3 → σ2[s]? = σ[s]?) ∧ σ2.length = σ.length ∧ H2 a = some (.ins (He.ga Y.K "TellNest") dx (nFs to vc (((corOf i).many * pr (o.drop (o.length - (j + 1))))) p)) ∧ H2 p = some (.lst (((List.range o.length).map (spF0 o (corOf i).many (j + 1))).map V.int)) ∧ ∀ y u, y ≠ a → y ≠ p → H y = some u → H2 y = some u, fun σ2 H2 z => ⟨o.length - (j + 1), by omega, rfl, by omega, z⟩, fun x H3 hy => ?_⟩
    obtain ⟨rfl, hxv⟩ := hy
    have hd : o.length - 1 - j < o.length := by omega
    have ex : x = .int ((o.length - 1 - j : Nat) : Int) := by rw [hxv]; congr 1; omega
    subst ex
    have ha' : (σ'.set 3 (some (V.int ((o.length - 1 - j : Nat) : Int))))[0]? = some (some (.ref a)) := by
      rw [List.getElem?_set_ne (by decide)]; rw [g1 0 (by decide)]; exact ha
    have l3 : 3 < σ'.length := by
      rw [g2, ← S.len]; show 3 < 4; decide
    have hi' : (σ'.set 3 (some (V.int ((o.length - 1 - j : Nat) : Int))))[3]? = some (some (V.int ((o.length - 1 - j : Nat) : Int))) := List.getElem?_set_self l3
    show tSeq (tAsg _ _) (tSeq (sFld _ _ _ _) _) _ (σ'.set 3 (some (V.int ((o.length - 1 - j : Nat) : Int)))) H3
    refine ⟨.ref a, ha', a, _, dx, _, _, rfl, g3, hh.c_nest, hh.noat 103, rfl, ?_⟩
    refine ⟨.ref a, ha', a, _, dx, _, _, rfl, g3, hh.c_nest, hh.noat 104, rfl, ?_⟩
    refine ⟨_, hi', p, _, _, o.length - 1 - j, rfl, rfl, g4, by rw [List.length_map, List.length_map, List.length_range]; exact ixN_nat hd, ?_⟩
    have eset : (((List.range o.length).map (spF0 o (corOf i).many j)).map V.int).set (o.length - 1 - j) (.int ((corOf i).many * pr (o.drop (o.length - j)))) = ((List.range o.length).map (spF0 o (corOf i).many (j + 1))).map V.int := by
      refine map_set_r fun q hq => ?_
      unfold spF0 spanI
      by_cases e : q = o.length - 1 - j
      · subst e
        rw [if_pos (by omega), if_pos rfl]
        congr 3; omega
      · rw [if_neg e]
        by_cases e2 : o.length - j ≤ q
        · rw [if_pos e2, if_pos (by omega)]
        · rw [if_neg e2, if_neg (by omega)]
    rw [eset]
    generalize hH4 : upd H3 p (.lst (((List.range o.length).map (spF0 o (corOf i).many (j + 1))).map V.int)) = H4
    have q1 : H4 a = some (.ins (He.ga Y.K "TellNest") dx (nFs to vc (((corOf i).many * pr (o.drop (o.length - j)))) p)) := by rw [← hH4, upd_ne nap]; exact g3
    have q2 : H4 p = some (.lst (((List.range o.length).map (spF0 o (corOf i).many (j + 1))).map V.int)) := by rw [← hH4, upd_same]
    have q3 : ∀ y u, y ≠ a → y ≠ p → H y = some u → H4 y = some u := fun y u h1 h2 h3 => by rw [← hH4, upd_ne h2]; exact g5 y u h1 h2 h3
    have dd := ho.drop (o.length - j)
    have hdS : Sm ((corOf i).many * pr (o.drop (o.length - j))) := (hM.mul dd.bd).mono (by decide)
    have hod : (o.map V.int)[o.length - 1 - j]? = some (.int o[o.length - 1 - j]) := by rw [List.getElem?_map, List.getElem?_eq_getElem hd]; rfl
    refine ⟨.ref a, ha', a, _, dx, _, _, rfl, q1, hh.c_nest, hh.noat 103, rfl, ?_⟩
    refine ⟨.ref a, ha', a, _, dx, _, .ref to, rfl, q1, hh.c_nest, hh.noat 101, rfl, ?_⟩
    refine ⟨_, hi', .inr (.inl ⟨to, o.map V.int, _, .int o[o.length - 1 - j], rfl, rfl, atu (ex0 q3), ?_, ?_⟩)⟩
    · unfold atI
      rw [List.length_map, ixN_nat hd]; exact hod
    refine ⟨_, _, rfl, rfl, Bd.mulW hdS (ho.getSm hd) (by decide), ?_⟩
    refine ⟨.ref a, ha', a, _, dx, _, rfl, q1, hh.c_nest, hh.noat 103, (by exact (show 4 < 1000 by decide)), ?_⟩
    have epm : ∀ (u v : Int), putF "many" (V.int v) (nFs to vc (u) p) = (nFs to vc (v) p) := fun u v => putF_at (f := "many") (j := 2) (ks := ["outer", "core", "many", "spans"]) (xs := [V.ref to, vc, .int u, .ref p]) rfl rfl
    rw [epm]
    have hpd : pr (o.drop (o.length - (j + 1))) = o[o.length - 1 - j] * pr (o.drop (o.length - j)) := by
      have e : o.length - (j + 1) = o.length - 1 - j := by omega
      rw [e, pr_drop hd]; congr 3; omega
    refine ⟨fun s hs => by rw [List.getElem?_set_ne (Ne.symm hs)]; exact g1 s hs, by rw [List.length_set]; exact g2, ?_, ?_, fun y u h1 h2 h3 => ?_⟩
    · show upd H4 a _ a = _
      rw [upd_same, hpd, Int.mul_comm o[o.length - 1 - j], ← Int.mul_assoc]
    · show upd H4 a _ p = _
      rw [upd_ne nap.symm]; exact q2
    · show upd H4 a _ y = _
      rw [upd_ne h1]; exact q3 y u h1 h2 h3
  · have ej : j = o.length := by omega
    subst ej
    refine .inl ⟨Nat.le_refl _, k σ' H' ?_⟩
    have eS : ((List.range o.length).map (spF0 o (corOf i).many o.length)).map V.int = (spansL o (corOf i).many).map V.int := by
      unfold spansL
      congr 1
      refine List.map_congr_left fun q hq => ?_
      unfold spF0
      rw [if_pos (by omega)]
    have eM : (corOf i).many * pr (o.drop (o.length - o.length)) = (corOf i).many * pr o := by rw [Nat.sub_self, List.drop_zero]
    rw [eS] at g4
    rw [eM] at g3
    have e0 : Ex M (upd M p (.lst ((spansL o (corOf i).many).map V.int))) := Ex.new mp
    have bp : B p = none := by
      cases hb : B p with
      | none => rfl
      | some u => exact absurd hp1 (O.c.there p (by rw [hb]; exact fun z => by cases z))
    have hlen := S.len
    refine ⟨⟨upd M p (.lst ((spansL o (corOf i).many).map V.int)), ⟨fun y u hy => ?_, O.c.old.trans e0, fun y hy => ?_, fun y u hy hby => ?_, fun y hy => ?_⟩, S.up _ _ e0 O.p.2, fun s t hs => ?_⟩, S.up, by rw [g2, ← hlen]; rfl, fun s t d e hst h1 h2 => ?_, fun s t d e h1 h2 => ?_⟩
    · by_cases z : y = p
      · subst z; rw [upd_same] at hy; cases hy; exact g4
      · rw [upd_ne z] at hy
        exact g5 y u (fun z => by rw [z, ma] at hy; cases hy) z (O.c.sub y u hy)
    · rw [upd_ne (fun z => hy (by rw [z]; exact bp))]; exact O.c.eq y hy
    · have n1 : y ≠ a := fun z => hby (by rw [b1, z])
      have n2 : y ≠ p := fun z => by rw [z, bp] at hy; cases hy
      exact g5 y u n1 n2 (O.c.keep y u hy hby)
    · by_cases z : y = a
      · rw [z, g3]; exact fun q => by cases q
      · have n2 : y ≠ p := fun z => hy (by rw [z]; exact bp)
        cases hq : H y with
        | none => exact absurd hq (O.c.there y hy)
        | some u => rw [g5 y u z n2 hq]; exact fun q => by cases q
    · match s, hs with
      | 0, hs =>
        cases hs
        refine ⟨a, by rw [g1 0 (by decide)]; exact ha, by rw [upd_ne nap]; exact ma, ⟨b1, b2⟩, dx, [V.ref to, vc, .int ((corOf i).many * pr o), .ref p], g3, rfl, ?_⟩
        exact ⟨_, _, rfl, ⟨to, _, rfl, (e0.rd hto), AtL.mkInts o⟩, _, _, rfl, avc.up e0, _, _, rfl, rfl, _, _, rfl, ⟨p, _, rfl, upd_same, AtL.mkInts _⟩, rfl⟩
      | 1, hs => cases hs; trivial
      | 2, hs => cases hs; trivial
      | 3, hs => cases hs; trivial
      | s + 4, hs => cases hs
    · match s, h1 with
      | 0, h1 => cases h1
      | 1, h1 => cases h1
      | 2, h1 => cases h1
      | 3, h1 => cases h1
      | s + 4, h1 => cases h1
    · match s, t, h1, h2 with
      | 0, 0, _, _ => rfl
      | 0, 1, _, h2 => cases h2
      | 0, 2, _, h2 => cases h2
      | 0, 3, _, h2 => cases h2
      | 0, t + 4, _, h2 => cases h2
      | 1, _, h1, _ => cases h1
      | 2, _, h1, _ => cases h1
      | 3, _, h1, _ => cases h1
      | s + 4, _, h1, _ => cases h1
end Sd

namespace Sd
open PySem PySem.Spec L2
open PyProof.Rows (envOfC)

/-- a nest that the program can hold -/
structure NOk (o i : List Int) : Prop where
  zo : SzB o
  zi : SzB i
  bM : Bd 1700 (corOf i).many
  bT : Bd 1700 ((corOf i).many * pr o)
  ne : o ≠ [] ∨ i ≠ []
theorem NOk.pos {o i : List Int} (h : NOk o i) : 0 < (corOf i).many := Cor.many_pos (corOf_ok h.zi)
theorem NOk.span {o i : List Int} (h : NOk o i) {d : Nat} (hd : d < o.length) : 0 < spanI o (corOf i).many d ∧ Bd 1700 (spanI o (corOf i).many d) ∧ 2 ≤ o.getD d 0 ∧ Bd 41 (o.getD d 0) := by
  have hp := h.pos
  have g := h.zo.get hd
  have p1 := (h.zo.drop (d + 1)).pos
  have hs : 0 < spanI o (corOf i).many d := Int.mul_pos hp p1
  have e : (corOf i).many * pr o = spanI o (corOf i).many d * (pr (o.take (d + 1))) := by
    unfold spanI
    rw [Int.mul_assoc, ← Int.mul_comm (pr (o.take (d + 1))), ← pr_app, List.take_append_drop]
  have p2 := (h.zo.take (d + 1)).pos
  refine ⟨hs, h.bT.le (by omega) ?_, by rw [getD_get hd]; exact g.1, by rw [getD_get hd]; exact g.2⟩
  rw [e]
  have := Int.mul_le_mul_of_nonneg_left (show 1 ≤ pr (o.take (d + 1)) by omega) (show 0 ≤ spanI o (corOf i).many d by omega)
  omega
theorem spansL_at {o : List Int} {cm : Int} {d : Nat} (h : d < o.length) : atI (dInts (spansL o cm)) (d : Int) = some (.int (spanI o cm d)) := mapI_at (f := spanI o cm) h
section
variable {X : Cx} {ρ : List Sl} {e e2 : Expr} {o i : List Int} {d : Nat} {pos pos2 : Pos}
theorem x_pouter (h : PE X e (tD ρ (planD X.K o i))) (hh : Hd X.K X.mg) (hb : attributeBase e "outer" X.env (eval e X.env) = eval e X.env := by rfl) : PE X (.Attribute e "outer" pos) (tD ρ (.tup (dInts o))) := x_fld (j := 0) h hh.c_nest (hh.noat 101) rfl rfl hb
theorem x_pcore (h : PE X e (tD ρ (planD X.K o i))) (hh : Hd X.K X.mg) (hb : attributeBase e "core" X.env (eval e X.env) = eval e X.env := by rfl) : PE X (.Attribute e "core" pos) (tD ρ (coreD X.K i)) := x_fld (j := 1) h hh.c_nest (hh.noat 102) rfl rfl hb
theorem x_pmany (h : PE X e (tD ρ (planD X.K o i))) (hh : Hd X.K X.mg) (hb : attributeBase e "many" X.env (eval e X.env) = eval e X.env := by rfl) : PE X (.Attribute e "many" pos) (tD ρ (.int ((corOf i).many * pr o))) := x_fld (j := 2) h hh.c_nest (hh.noat 103) rfl rfl hb
theorem x_pspans (h : PE X e (tD ρ (planD X.K o i))) (hh : Hd X.K X.mg) (hb : attributeBase e "spans" X.env (eval e X.env) = eval e X.env := by rfl) : PE X (.Attribute e "spans" pos) (tD ρ (.lst (dInts (spansL o (corOf i).many)))) := x_fld (j := 3) h hh.c_nest (hh.noat 104) rfl rfl hb
theorem x_pspan (h : PE X e (tD ρ (planD X.K o i))) (hh : Hd X.K X.mg) (h2 : PE X e2 (tD ρ (.int d))) (hd : d < o.length) (hb : attributeBase e "spans" X.env (eval e X.env) = eval e X.env := by rfl) (hs : PlainIx e2 := by exact fun _ _ => rfl) : PE X (.Subscript (.Attribute e "spans" pos) e2 pos2) (tD ρ (.int (spanI o (corOf i).many d))) := x_ix (ds := dInts (spansL o (corOf i).many)) (x_pspans h hh hb) h2 rfl (spansL_at hd) hs
theorem x_psize (h : PE X e (tD ρ (planD X.K o i))) (hh : Hd X.K X.mg) (h2 : PE X e2 (tD ρ (.int d))) (hd : d < o.length) (hb : attributeBase e "outer" X.env (eval e X.env) = eval e X.env := by rfl) (hs : PlainIx e2 := by exact fun _ _ => rfl) : PE X (.Subscript (.Attribute e "outer" pos) e2 pos2) (tD ρ (.int (o.getD d 0))) := x_is (x_ixI (n := d) (x_pouter h hh hb) h2 rfl hd hs) (by rw [getD_get hd])
theorem x_cmany (h : PE X e (tD ρ (coreD X.K i))) (hh : Hd X.K X.mg) (hb : attributeBase e "many" X.env (eval e X.env) = eval e X.env := by rfl) : PE X (.Attribute e "many" pos) (tD ρ (.int (corOf i).many)) := x_fld (j := 1) h hh.c_core (hh.noat 94) rfl rfl hb
theorem x_cmoved (h : PE X e (tD ρ (coreD X.K i))) (hh : Hd X.K X.mg) (hb : attributeBase e "moved" X.env (eval e X.env) = eval e X.env := by rfl) : PE X (.Attribute e "moved" pos) (tD ρ (.tup (dInts (coreMoved i)))) := x_fld (j := 2) h hh.c_core (hh.noat 95) rfl rfl hb
theorem x_csizes (h : PE X e (tD ρ (coreD X.K i))) (hh : Hd X.K X.mg) (hb : attributeBase e "sizes" X.env (eval e X.env) = eval e X.env := by rfl) : PE X (.Attribute e "sizes" pos) (tD ρ (.tup (dInts i))) := x_fld (j := 0) h hh.c_core (hh.noat 93) rfl rfl hb
end
def outBeg (o : List Int) (cm : Int) (d : Nat) (v lap : Int) : Int := (lap * o.getD d 0 + (v + lap) % o.getD d 0) * spanI o cm d
/-! ### TellNest.outer_begin -/
def F_TellNest_outer_begin (Y : Wo) (ds : List D) (r : Res) : Prop := ∃ (o i : List Int) (d : Nat) (v lap : Int), ds = [planD Y.K o i, .int d, .int v, .int lap] ∧ r = .ok (.int (outBeg o (corOf i).many d v lap)) ∧ NOk o i ∧ d < o.length ∧ Bd 1710 lap
theorem sc_TellNest_outer_begin : FnScope ["self", "dial", "value", "lap", "size"] ["self", "dial", "value", "lap"] (defScope s_TellNest_outer_begin) := ⟨rfl, rfl, rfl, by decide +kernel, rfl, by decide +kernel, by decide +kernel⟩
theorem fo_TellNest_outer_begin {Y : Wo} (hh : Y.hd) : FoM Y 1 "TellNest" "outer_begin" ["self", "dial", "value", "lap"] (F_TellNest_outer_begin Y) := by
  have nd : (["self", "dial", "value", "lap", "size"] : List Str).Nodup := sc_TellNest_outer_begin.nd
  refine mkM (k := 0) (N := ["self", "dial", "value", "lap", "size"]) hh 81 114 100 ds_TellNest_outer_begin sc_TellNest_outer_begin (fun _ _ _ _ _ _ us hl => match us, hl with | [_, _, _, _], _ => rfl) (by rintro ds r ⟨o, i, d, v, lap, rfl, rfl, hn, hd, hl⟩; rfl) ?_
  rintro cdv A outer s H E ds r hr ⟨o, i, d, v, lap, rfl, rfl, hn, hd, hl⟩
  obtain ⟨s1, s2, s3, s4⟩ := hn.span hd
  refine s_seq (s_set 4 nd (x_psize (x_v 0) hh (x_v 1) hd)) ?_
  have hm0 := Int.emod_nonneg (v + lap) (show o.getD d 0 ≠ 0 by omega)
  have hm1 := Int.emod_lt_of_pos (v + lap) (show 0 < o.getD d 0 by omega)
  have hmb : Bd 41 ((v + lap) % o.getD d 0) := s4.le hm0 (by omega)
  exact r_ret (x_mulS (x_add (x_mulS (x_v 3) (x_v 4) (hl.mono (by decide)) (s4.mono (by decide))) (x_mod (x_add (x_v 2) (x_v 3)) (x_v 4) (by omega))) (x_pspan (x_v 0) hh (x_v 1) hd) (((hl.mul s4).add hmb).mono (by decide)) (s2.mono (by decide))) sa
theorem coreMoved_len (i : List Int) : (coreMoved i).length = i.length := by unfold coreMoved; rw [Cor.vals_len, corOf_sizes]
theorem coreMoved_row {i : List Int} (hi : SzB i) : RowOk i (coreMoved i) := by
  have hc := corOf_ok hi
  have hp := Cor.many_pos hc
  have := Cor.vals_row hc (st := (corOf i).many - 1) (k := (corOf i).top) (by omega) (by omega)
  rw [corOf_sizes] at this
  exact this
def coreVal (i : List Int) (p : Nat) (v c : Int) : Int := (v - c * (coreMoved i).getD p 0) % i.getD p 0
/-! ### TellNest.core_value -/
def F_TellNest_core_value (Y : Wo) (ds : List D) (r : Res) : Prop := ∃ (o i : List Int) (p : Nat) (v c : Int), ds = [planD Y.K o i, .int p, .int v, .int c] ∧ r = .ok (.int (coreVal i p v c)) ∧ SzB i ∧ p < i.length ∧ Bd 1710 c
theorem sc_TellNest_core_value : FnScope ["self", "place", "value", "copy"] ["self", "place", "value", "copy"] (defScope s_TellNest_core_value) := ⟨rfl, rfl, rfl, by decide +kernel, rfl, by decide +kernel, by decide +kernel⟩
theorem fo_TellNest_core_value {Y : Wo} (hh : Y.hd) : FoM Y 1 "TellNest" "core_value" ["self", "place", "value", "copy"] (F_TellNest_core_value Y) := by
  have nd : (["self", "place", "value", "copy"] : List Str).Nodup := sc_TellNest_core_value.nd
  refine mkM (k := 0) (N := ["self", "place", "value", "copy"]) hh 82 115 100 ds_TellNest_core_value sc_TellNest_core_value (fun _ _ _ _ _ _ us hl => match us, hl with | [_, _, _, _], _ => rfl) (by rintro ds r ⟨o, i, p, v, c, rfl, rfl, hi, hp, hl⟩; rfl) ?_
  rintro cdv A outer s H E ds r hr ⟨o, i, p, v, c, rfl, rfl, hi, hp, hl⟩
  have hr1 := coreMoved_row hi
  have hp2 : p < (coreMoved i).length := by rw [coreMoved_len]; exact hp
  have g := hi.get hp
  have m := hr1.2 p hp hp2
  refine r_ret (x_is (x_mod (x_sub (x_v 2) (x_mulS (x_v 3) (x_ixI (n := p) (x_cmoved (x_pcore (x_v 0) hh) hh) (x_v 1) rfl hp2) (hl.mono (by decide)) ((hi.getSm hp).le m.1 (by omega)))) (x_ixI (n := p) (x_csizes (x_pcore (x_v 0) hh) hh) (x_v 1) rfl hp) (by omega)) ?_) sa
  unfold coreVal
  rw [getD_get hp, getD_get hp2]
def planNext (o i : List Int) (d : Nat) (v st k : Int) : Option Int :=
  if d < o.length then
    (if st < outBeg o (corOf i).many d v (st / (spanI o (corOf i).many d * o.getD d 0)) + spanI o (corOf i).many d then some (max st (outBeg o (corOf i).many d v (st / (spanI o (corOf i).many d * o.getD d 0))))
    else if outBeg o (corOf i).many d v (st / (spanI o (corOf i).many d * o.getD d 0) + 1) < (corOf i).many * pr o then some (outBeg o (corOf i).many d v (st / (spanI o (corOf i).many d * o.getD d 0) + 1)) else none)
  else match coreNext i (d - o.length) (coreVal i (d - o.length) v (st / (corOf i).many)) (st % (corOf i).many) k with
    | some f => some (st / (corOf i).many * (corOf i).many + f)
    | none => if (corOf i).many * pr o ≤ (st / (corOf i).many + 1) * (corOf i).many then none
      else (coreNext i (d - o.length) (coreVal i (d - o.length) v (st / (corOf i).many + 1)) 0 0).map fun f => (st / (corOf i).many + 1) * (corOf i).many + f
def planLast (o i : List Int) (d : Nat) (v st k : Int) : Option Int :=
  if d < o.length then
    (if outBeg o (corOf i).many d v (st / (spanI o (corOf i).many d * o.getD d 0)) ≤ st then some (min st (outBeg o (corOf i).many d v (st / (spanI o (corOf i).many d * o.getD d 0)) + spanI o (corOf i).many d - 1))
    else if st / (spanI o (corOf i).many d * o.getD d 0) = 0 then none else some (outBeg o (corOf i).many d v (st / (spanI o (corOf i).many d * o.getD d 0) - 1) + spanI o (corOf i).many d - 1))
  else match coreLast i (d - o.length) (coreVal i (d - o.length) v (st / (corOf i).many)) (st % (corOf i).many) k with
    | some f => some (st / (corOf i).many * (corOf i).many + f)
    | none => if st / (corOf i).many = 0 then none
      else (coreLast i (d - o.length) (coreVal i (d - o.length) v (st / (corOf i).many - 1)) ((corOf i).many - 1) (corOf i).top).map fun f => (st / (corOf i).many - 1) * (corOf i).many + f
structure PlQ (o i : List Int) (d : Nat) (st k : Int) : Prop where
  n : NOk o i
  dl : d < o.length + i.length
  s0 : 0 ≤ st
  s1 : st < (corOf i).many * pr o
  lf : (corOf i).Left (st % (corOf i).many) k
/-- every value is shown in a whole pass -/
def FullN (i : List Int) : Prop := ∀ (p : Nat) (v : Int), p < i.length → 0 ≤ v → v < i.getD p 0 → (∃ x, coreNext i p v 0 0 = some x) ∧ ∃ x, coreLast i p v ((corOf i).many - 1) (corOf i).top = some x
theorem corOf_left {i : List Int} {st k : Int} (h : (corOf i).Left st k) (h2 : 2 ≤ i.length) : (mshOf i).Left st k := h (mshOf i) (corOf_2 h2)
theorem coreVal_lt {i : List Int} {p : Nat} (hi : SzB i) (hp : p < i.length) (v c : Int) : 0 ≤ coreVal i p v c ∧ coreVal i p v c < i.getD p 0 := by
  have g := hi.get hp
  rw [← getD_get hp] at g
  exact ⟨Int.emod_nonneg _ (by omega), Int.emod_lt_of_pos _ (by omega)⟩
theorem zero_left {i : List Int} (hi : SzB i) (h2 : 2 ≤ i.length) : (mshOf i).Left 0 0 := by
  obtain ⟨k, hk⟩ := Msh.left_ex (mshOf_ok h2 hi) (Int.le_refl 0)
  have := Msh.left_zero (mshOf_ok h2 hi) hk
  rw [this] at hk; exact hk
/-! ### TellNest.next_of -/
def F_TellNest_next_of (Y : Wo) (ds : List D) (r : Res) : Prop := ∃ (o i : List Int) (d : Nat) (v st k : Int), ds = [planD Y.K o i, .int d, .int v, .int st] ∧ r = .ok (optD (planNext o i d v st k)) ∧ PlQ o i d st k ∧ FullN i
theorem sc_TellNest_next_of : FnScope ["self", "dial", "value", "stage", "span", "lap", "begin", "place", "copy", "rest", "found"] ["self", "dial", "value", "stage"] (defScope s_TellNest_next_of) := ⟨rfl, rfl, rfl, by decide +kernel, rfl, by decide +kernel, by decide +kernel⟩
theorem fo_TellNest_next_of {Y : Wo} (hh : Y.hd) : FoM Y 3 "TellNest" "next_of" ["self", "dial", "value", "stage"] (F_TellNest_next_of Y) := by
  have nd : (["self", "dial", "value", "stage", "span", "lap", "begin", "place", "copy", "rest", "found"] : List Str).Nodup := sc_TellNest_next_of.nd
  refine mkM (k := 2) (N := ["self", "dial", "value", "stage", "span", "lap", "begin", "place", "copy", "rest", "found"]) hh 83 116 100 ds_TellNest_next_of sc_TellNest_next_of (fun _ _ _ _ _ _ us hl => match us, hl with | [_, _, _, _], _ => rfl) (by rintro ds r ⟨o, i, d, v, st, k, rfl, rfl, h, hfull⟩; rfl) ?_
  rintro cdv A outer s H E ds r hr ⟨o, i, d, v, st, k, rfl, rfl, h, hfull⟩
  have hn := h.n
  have hcm := hn.pos
  have hl := hn.zo.len
  have hl2 := hn.zi.len
  have hcS : Sm (corOf i).many := hn.bM.mono (by decide)
  have hsB : Bd 1700 st := hn.bT.le h.s0 (by have := h.s1; omega)
  refine r_when (t_lt (x_v 1) (x_lenI hh.b_len (x_pouter (x_v 0) hh))) (fun hc => ⟨?_, by generalize planNext o i d v st k = z; cases z <;> rfl⟩) (fun hc => ?_)
  · have hd : d < o.length := by have := of_decide_eq_true hc; omega
    obtain ⟨s1, s2, s3, s4⟩ := hn.span hd
    have sw : 0 < spanI o (corOf i).many d * o.getD d 0 := Int.mul_pos s1 (by omega)
    have q0 : 0 ≤ st / (spanI o (corOf i).many d * o.getD d 0) := Int.ediv_nonneg h.s0 (by omega)
    have qB : Bd 1700 (st / (spanI o (corOf i).many d * o.getD d 0)) := hsB.le q0 (Int.ediv_le_self _ h.s0)
    refine s_seq (s_set 4 nd (x_pspan (x_v 0) hh (x_v 1) hd)) ?_
    refine s_seq (s_set 5 nd (x_divS (x_v 3) (x_mulS (x_v 4) (x_psize (x_v 0) hh (x_v 1) hd) (s2.mono (by decide)) (s4.mono (by decide))) sw ((s2.mul s4).mono (by decide)))) ?_
    refine s_seq (s_set (d := .int (outBeg o (corOf i).many d v (st / (spanI o (corOf i).many d * o.getD d 0)))) 6 nd (x_m (fo_TellNest_outer_begin hh) hr (x_v 0) (a_cons (x_v 1) (a_cons (x_v 2) (a_cons (x_v 5) a_nil))) ⟨o, i, d, v, _, rfl, rfl, hn, hd, qB.mono (by decide)⟩)) ?_
    refine r_when (t_gt (x_add (x_v 6) (x_v 4)) (x_v 3)) (fun h1 => ⟨r_ret (x_is (x_max hh.b_max rfl (x_v 3) (x_v 6)) ?_) sa, by generalize planNext o i d v st k = z; cases z <;> rfl⟩) (fun h1 => ?_)
    · unfold planNext; rw [if_pos hd, ifT h1]; rfl
    refine s_seq (s_set (d := .int (outBeg o (corOf i).many d v (st / (spanI o (corOf i).many d * o.getD d 0) + 1))) 6 nd (x_m (fo_TellNest_outer_begin hh) hr (x_v 0) (a_cons (x_v 1) (a_cons (x_v 2) (a_cons (x_add (x_v 5) x_int) a_nil))) ⟨o, i, d, v, _, rfl, rfl, hn, hd, (qB.add (Bd.lit 1)).mono (by decide)⟩)) ?_
    refine r_ret (x_if (t_lt (x_v 6) (x_pmany (x_v 0) hh)) (fun h2 => x_is (x_v 6) ?_) (fun h2 => x_is x_non ?_)) sa
    · unfold planNext; rw [if_pos hd, ifF h1, ifT h2]; rfl
    · unfold planNext; rw [if_pos hd, ifF h1, ifF h2]; rfl
  have hd : ¬ d < o.length := by have := of_decide_eq_false hc; omega
  have hp : d - o.length < i.length := by have := h.dl; omega
  have c0 : 0 ≤ st / (corOf i).many := Int.ediv_nonneg h.s0 (by omega)
  have cB : Bd 1700 (st / (corOf i).many) := hsB.le c0 (Int.ediv_le_self _ h.s0)
  have r0 := Int.emod_nonneg st (show (corOf i).many ≠ 0 by omega)
  have r1 := Int.emod_lt_of_pos st hcm
  refine s_seq (s_set (d := .int ((d - o.length : Nat) : Int)) 7 nd (x_is (x_sub (x_v 1) (x_lenI hh.b_len (x_pouter (x_v 0) hh))) (by congr 1; omega))) ?_
  refine s_seq (s_asg2 8 9 nd (x_divmodS hh.b_divmod (x_v 3) (x_cmany (x_pcore (x_v 0) hh) hh) hcm hcS)) ?_
  have cv := coreVal_lt hn.zi hp v (st / (corOf i).many)
  refine s_seq (s_set (d := optD (coreNext i (d - o.length) (coreVal i (d - o.length) v (st / (corOf i).many)) (st % (corOf i).many) k)) 10 nd (x_m (fo_TellCore_next_of hh) hr (x_pcore (x_v 0) hh) (a_cons (x_v 7) (a_cons (x_m (fo_TellNest_core_value hh) hr (x_v 0) (a_cons (x_v 7) (a_cons (x_v 2) (a_cons (x_v 8) a_nil))) ⟨o, i, _, v, _, rfl, rfl, hn.zi, hp, cB.mono (by decide)⟩) (a_cons (x_v 9) a_nil))) ⟨i, _, _, _, k, rfl, rfl, ⟨hn.zi, hp, cv.1, cv.2, r0, hn.bM.le r0 (by omega), corOf_left h.lf⟩⟩)) ?_
  unfold planNext
  rw [if_neg hd]
  cases e : coreNext i (d - o.length) (coreVal i (d - o.length) v (st / (corOf i).many)) (st % (corOf i).many) k with
  | some f =>
    refine r_skip (t_is (t_isN (x_v 10)) rfl) ?_
    exact r_ret (x_add (x_mulS (x_v 8) (x_cmany (x_pcore (x_v 0) hh) hh) (cB.mono (by decide)) hcS) (x_v 10)) sa
  | none =>
    have c1 : Bd 1710 (st / (corOf i).many + 1) := (cB.add (Bd.lit 1)).mono (by decide)
    by_cases hge : (corOf i).many * pr o ≤ (st / (corOf i).many + 1) * (corOf i).many
    · have eG : optD (if (corOf i).many * pr o ≤ (st / (corOf i).many + 1) * (corOf i).many then none else (coreNext i (d - o.length) (coreVal i (d - o.length) v (st / (corOf i).many + 1)) 0 0).map fun f => (st / (corOf i).many + 1) * (corOf i).many + f) = .non := by rw [if_pos hge]; rfl
      show PSs _ _ (tS _ _ _ (outF _ (.ok (optD (if (corOf i).many * pr o ≤ (st / (corOf i).many + 1) * (corOf i).many then none else (coreNext i (d - o.length) (coreVal i (d - o.length) v (st / (corOf i).many + 1)) 0 0).map fun f => (st / (corOf i).many + 1) * (corOf i).many + f)))))
      rw [eG]
      refine r_take (t_is (t_isN (x_v 10)) rfl) (s_seq (s_augA 8 nd x_int) (r_take (t_is (t_ge (x_mulS (x_v 8) (x_cmany (x_pcore (x_v 0) hh) hh) (c1.mono (by decide)) hcS) (x_pmany (x_v 0) hh)) (decide_eq_true hge)) (r_ret x_non sa) rfl)) rfl
    · have cv2 := coreVal_lt hn.zi hp v (st / (corOf i).many + 1)
      obtain ⟨f, hf⟩ := (hfull (d - o.length) _ hp cv2.1 cv2.2).1
      have eG : optD (if (corOf i).many * pr o ≤ (st / (corOf i).many + 1) * (corOf i).many then none else (coreNext i (d - o.length) (coreVal i (d - o.length) v (st / (corOf i).many + 1)) 0 0).map fun f => (st / (corOf i).many + 1) * (corOf i).many + f) = .int ((st / (corOf i).many + 1) * (corOf i).many + f) := by rw [if_neg hge, hf]; rfl
      show PSs _ _ (tS _ _ _ (outF _ (.ok (optD (if (corOf i).many * pr o ≤ (st / (corOf i).many + 1) * (corOf i).many then none else (coreNext i (d - o.length) (coreVal i (d - o.length) v (st / (corOf i).many + 1)) 0 0).map fun f => (st / (corOf i).many + 1) * (corOf i).many + f)))))
      rw [eG]
      refine r_takeN (t_is (t_isN (x_v 10)) rfl) (s_seq (s_augA 8 nd x_int) (r_skip (t_is (t_ge (x_mulS (x_v 8) (x_cmany (x_pcore (x_v 0) hh) hh) (c1.mono (by decide)) hcS) (x_pmany (x_v 0) hh)) (decide_eq_false hge)) (s_seq (s_set (d := .int f) 10 nd (x_is (x_m (fo_TellCore_next_of hh) hr (x_pcore (x_v 0) hh) (a_cons (x_v 7) (a_cons (x_m (fo_TellNest_core_value hh) hr (x_v 0) (a_cons (x_v 7) (a_cons (x_v 2) (a_cons (x_v 8) a_nil))) ⟨o, i, _, v, _, rfl, rfl, hn.zi, hp, c1⟩) (a_cons x_int a_nil))) ⟨i, _, _, _, 0, rfl, rfl, ⟨hn.zi, hp, cv2.1, cv2.2, Int.le_refl 0, Bd.lit 1700 (by decide +kernel), zero_left hn.zi⟩⟩) (by rw [hf]; rfl))) (s_nil (SubL.refl _))))) ?_
      exact r_ret (x_add (x_mulS (x_v 8) (x_cmany (x_pcore (x_v 0) hh) hh) (c1.mono (by decide)) hcS) (x_v 10)) sa
/-! ### TellNest.last_of -/
def F_TellNest_last_of (Y : Wo) (ds : List D) (r : Res) : Prop := ∃ (o i : List Int) (d : Nat) (v st k : Int), ds = [planD Y.K o i, .int d, .int v, .int st] ∧ r = .ok (optD (planLast o i d v st k)) ∧ PlQ o i d st k ∧ FullN i
theorem sc_TellNest_last_of : FnScope ["self", "dial", "value", "stage", "span", "lap", "begin", "place", "copy", "rest", "found"] ["self", "dial", "value", "stage"] (defScope s_TellNest_last_of) := ⟨rfl, rfl, rfl, by decide +kernel, rfl, by decide +kernel, by decide +kernel⟩
theorem fo_TellNest_last_of {Y : Wo} (hh : Y.hd) : FoM Y 3 "TellNest" "last_of" ["self", "dial", "value", "stage"] (F_TellNest_last_of Y) := by
  have nd : (["self", "dial", "value", "stage", "span", "lap", "begin", "place", "copy", "rest", "found"] : List Str).Nodup := sc_TellNest_last_of.nd
  refine mkM (k := 2) (N := ["self", "dial", "value", "stage", "span", "lap", "begin", "place", "copy", "rest", "found"]) hh 84 117 100 ds_TellNest_last_of sc_TellNest_last_of (fun _ _ _ _ _ _ us hl => match us, hl with | [_, _, _, _], _ => rfl) (by rintro ds r ⟨o, i, d, v, st, k, rfl, rfl, h, hfull⟩; rfl) ?_
  rintro cdv A outer s H E ds r hr ⟨o, i, d, v, st, k, rfl, rfl, h, hfull⟩
  have hn := h.n
  have hcm := hn.pos
  have hl := hn.zo.len
  have hl2 := hn.zi.len
  have hcS : Sm (corOf i).many := hn.bM.mono (by decide)
  have hsB : Bd 1700 st := hn.bT.le h.s0 (by have := h.s1; omega)
  refine r_when (t_lt (x_v 1) (x_lenI hh.b_len (x_pouter (x_v 0) hh))) (fun hc => ⟨?_, by generalize planLast o i d v st k = z; cases z <;> rfl⟩) (fun hc => ?_)
  · have hd : d < o.length := by have := of_decide_eq_true hc; omega
    obtain ⟨s1, s2, s3, s4⟩ := hn.span hd
    have sw : 0 < spanI o (corOf i).many d * o.getD d 0 := Int.mul_pos s1 (by omega)
    have q0 : 0 ≤ st / (spanI o (corOf i).many d * o.getD d 0) := Int.ediv_nonneg h.s0 (by omega)
    have qB : Bd 1700 (st / (spanI o (corOf i).many d * o.getD d 0)) := hsB.le q0 (Int.ediv_le_self _ h.s0)
    refine s_seq (s_set 4 nd (x_pspan (x_v 0) hh (x_v 1) hd)) ?_
    refine s_seq (s_set 5 nd (x_divS (x_v 3) (x_mulS (x_v 4) (x_psize (x_v 0) hh (x_v 1) hd) (s2.mono (by decide)) (s4.mono (by decide))) sw ((s2.mul s4).mono (by decide)))) ?_
    refine s_seq (s_set (d := .int (outBeg o (corOf i).many d v (st / (spanI o (corOf i).many d * o.getD d 0)))) 6 nd (x_m (fo_TellNest_outer_begin hh) hr (x_v 0) (a_cons (x_v 1) (a_cons (x_v 2) (a_cons (x_v 5) a_nil))) ⟨o, i, d, v, _, rfl, rfl, hn, hd, qB.mono (by decide)⟩)) ?_
    refine r_when (t_le (x_v 6) (x_v 3)) (fun h1 => ⟨r_ret (x_is (x_min hh.b_min rfl (x_v 3) (x_sub (x_add (x_v 6) (x_v 4)) x_int)) ?_) sa, by generalize planLast o i d v st k = z; cases z <;> rfl⟩) (fun h1 => ?_)
    · unfold planLast; rw [if_pos hd, ifT h1]; rfl
    refine r_ret (x_if (t_eq (x_v 5) x_int rfl) (fun h2 => x_is x_non ?_) (fun h2 => x_is (x_sub (x_add (x_m (fo_TellNest_outer_begin hh) hr (x_v 0) (a_cons (x_v 1) (a_cons (x_v 2) (a_cons (x_sub (x_v 5) x_int) a_nil))) ⟨o, i, d, v, _, rfl, rfl, hn, hd, (qB.sub (Bd.lit 1)).mono (by decide)⟩) (x_v 4)) x_int) ?_)) sa
    · unfold planLast; rw [if_pos hd, ifF h1, ifT h2]; rfl
    · unfold planLast; rw [if_pos hd, ifF h1, ifF h2]; rfl
  have hd : ¬ d < o.length := by have := of_decide_eq_false hc; omega
  have hp : d - o.length < i.length := by have := h.dl; omega
  have c0 : 0 ≤ st / (corOf i).many := Int.ediv_nonneg h.s0 (by omega)
  have cB : Bd 1700 (st / (corOf i).many) := hsB.le c0 (Int.ediv_le_self _ h.s0)
  have r0 := Int.emod_nonneg st (show (corOf i).many ≠ 0 by omega)
  have r1 := Int.emod_lt_of_pos st hcm
  refine s_seq (s_set (d := .int ((d - o.length : Nat) : Int)) 7 nd (x_is (x_sub (x_v 1) (x_lenI hh.b_len (x_pouter (x_v 0) hh))) (by congr 1; omega))) ?_
  refine s_seq (s_asg2 8 9 nd (x_divmodS hh.b_divmod (x_v 3) (x_cmany (x_pcore (x_v 0) hh) hh) hcm hcS)) ?_
  have cv := coreVal_lt hn.zi hp v (st / (corOf i).many)
  refine s_seq (s_set (d := optD (coreLast i (d - o.length) (coreVal i (d - o.length) v (st / (corOf i).many)) (st % (corOf i).many) k)) 10 nd (x_m (fo_TellCore_last_of hh) hr (x_pcore (x_v 0) hh) (a_cons (x_v 7) (a_cons (x_m (fo_TellNest_core_value hh) hr (x_v 0) (a_cons (x_v 7) (a_cons (x_v 2) (a_cons (x_v 8) a_nil))) ⟨o, i, _, v, _, rfl, rfl, hn.zi, hp, cB.mono (by decide)⟩) (a_cons (x_v 9) a_nil))) ⟨i, _, _, _, k, rfl, rfl, ⟨hn.zi, hp, cv.1, cv.2, r0, hn.bM.le r0 (by omega), corOf_left h.lf⟩⟩)) ?_
  unfold planLast
  rw [if_neg hd]
  cases e : coreLast i (d - o.length) (coreVal i (d - o.length) v (st / (corOf i).many)) (st % (corOf i).many) k with
  | some f =>
    refine r_skip (t_is (t_isN (x_v 10)) rfl) ?_
    exact r_ret (x_add (x_mulS (x_v 8) (x_cmany (x_pcore (x_v 0) hh) hh) (cB.mono (by decide)) hcS) (x_v 10)) sa
  | none =>
    have c1 : Bd 1710 (st / (corOf i).many - 1) := (cB.sub (Bd.lit 1)).mono (by decide)
    by_cases hge : st / (corOf i).many = 0
    · have eG : optD (if st / (corOf i).many = 0 then none else (coreLast i (d - o.length) (coreVal i (d - o.length) v (st / (corOf i).many - 1)) ((corOf i).many - 1) (corOf i).top).map fun f => (st / (corOf i).many - 1) * (corOf i).many + f) = .non := by rw [if_pos hge]; rfl
      show PSs _ _ (tS _ _ _ (outF _ (.ok (optD (if st / (corOf i).many = 0 then none else (coreLast i (d - o.length) (coreVal i (d - o.length) v (st / (corOf i).many - 1)) ((corOf i).many - 1) (corOf i).top).map fun f => (st / (corOf i).many - 1) * (corOf i).many + f)))))
      rw [eG]
      refine r_take (t_is (t_isN (x_v 10)) rfl) (r_take (t_is (t_eq (x_v 8) x_int rfl) (decide_eq_true hge)) (r_ret x_non sa) rfl) rfl
    · have cv2 := coreVal_lt hn.zi hp v (st / (corOf i).many - 1)
      obtain ⟨f, hf⟩ := (hfull (d - o.length) _ hp cv2.1 cv2.2).2
      have eG : optD (if st / (corOf i).many = 0 then none else (coreLast i (d - o.length) (coreVal i (d - o.length) v (st / (corOf i).many - 1)) ((corOf i).many - 1) (corOf i).top).map fun f => (st / (corOf i).many - 1) * (corOf i).many + f) = .int ((st / (corOf i).many - 1) * (corOf i).many + f) := by rw [if_neg hge, hf]; rfl
      show PSs _ _ (tS _ _ _ (outF _ (.ok (optD (if st / (corOf i).many = 0 then none else (coreLast i (d - o.length) (coreVal i (d - o.length) v (st / (corOf i).many - 1)) ((corOf i).many - 1) (corOf i).top).map fun f => (st / (corOf i).many - 1) * (corOf i).many + f)))))
      rw [eG]
      refine r_takeN (t_is (t_isN (x_v 10)) rfl) (r_skip (t_is (t_eq (x_v 8) x_int rfl) (decide_eq_false hge)) (s_seq (s_augS 8 nd x_int) (s_seq (s_set (d := .int f) 10 nd (x_is (x_m (fo_TellCore_last_of hh) hr (x_pcore (x_v 0) hh) (a_cons (x_v 7) (a_cons (x_m (fo_TellNest_core_value hh) hr (x_v 0) (a_cons (x_v 7) (a_cons (x_v 2) (a_cons (x_v 8) a_nil))) ⟨o, i, _, v, _, rfl, rfl, hn.zi, hp, c1⟩) (a_cons (x_sub (x_cmany (x_pcore (x_v 0) hh) hh) x_int) a_nil))) ⟨i, _, _, _, (corOf i).top, rfl, rfl, ⟨hn.zi, hp, cv2.1, cv2.2, by omega, hn.bM.le (by omega) (by omega), corOf_left (Cor.top_left (corOf_ok hn.zi))⟩⟩) (by rw [hf]; rfl))) (s_nil (SubL.refl _))))) ?_
      exact r_ret (x_add (x_mulS (x_v 8) (x_cmany (x_pcore (x_v 0) hh) hh) (c1.mono (by decide)) hcS) (x_v 10)) sa
end Sd

namespace Sd
open PySem PySem.Spec L2
open PyProof.Rows (envOfC)

section
variable {X : Cx} {ρ : List Sl} {e : Expr} {p pos tpos : Pos} {elts : List Expr} {kk : Nat} {ys : List D}
theorem i_enumL (hm : X.mg "enumerate" = none) (h : PE X e (tD ρ (.lst ys))) (hg : Gl X "enumerate" := by rfl) (hs : starEach [e] X.env = (false, eval e X.env) :: starEach [] X.env := by rfl) (hs1 : starEach [e] X.env = [(false, eval e X.env)] := by rfl) : PI X (.Tuple elts kk tpos) (.Call (.Name "enumerate" p) [e] [] pos) (tI ρ (enumD ys)) :=
  pi_imp (pi_enum hg hm (a_cons h a_nil hs) hs1) fun σ H R ⟨B, M0, b, P, S, k⟩ => ⟨B, M0, b, P, S, fun vs H1 S1 => by
    obtain ⟨M, O⟩ := S1.opn
    obtain ⟨x, ev, a, xs, ex, hx, ax⟩ := atL_1 O.p.1
    have uG : Up (fun M => M a = some (.lst xs) ∧ AtL M ys xs) := fun _ _ e q => ⟨e _ _ q.1, q.2.up e⟩
    have hl := ax.len
    refine ⟨a, xs, by rw [ev, ex], SqL.of (O.c.sub _ _ hx), k _ H1 (fun M => M a = some (.lst xs) ∧ AtL M ys xs) ((S1.back O (Core.refl O.c.sub) uG ⟨hx, ax⟩).imp (uG.and S.up) fun _ _ q => ⟨q.1, q.2.2⟩) uG fun M' H' q e => ⟨fun i d hd => ?_, xs, SqL.of (e _ _ q.1), by rw [enumD_len, hl]; exact Nat.le_refl _⟩⟩
    obtain ⟨y, hy, rfl⟩ := enumD_get hd
    obtain ⟨v, hv, _⟩ := q.2.get hy
    refine ⟨⟨xs, v, SqL.of (e _ _ q.1), hv⟩, fun v H'' z => ?_⟩
    obtain ⟨T, u, e1, e2, e3, f1⟩ := z
    have g1 := q.2.all hy (f1 xs (SqL.of (e _ _ q.1)))
    subst e1; subst e3
    have mT : M' T = none := e.free e2
    have e0 : Ex M' (upd M' T (.tup [.int i, u])) := Ex.new mT
    exact ⟨upd M' T (.tup [.int i, u]), ⟨e.upd2 T _ mT, e0, fun a ha => upd_ne fun z => ha (by rw [z]; exact e2), fun a o ha _ => by rw [upd_ne fun z => by rw [z, e2] at ha; cases ha]; exact ha, fun a ha => by rw [upd_ne fun z => ha (by rw [z]; exact e2)]; exact ha⟩, T, [.int i, u], rfl, .inl upd_same, .int i, [u], rfl, rfl, u, [], rfl, g1.up e0, rfl⟩⟩
/-- a tuple, or a list, of ints -/
inductive SqD (ns : List Int) : D → Prop where
  | t : SqD ns (.tup (dInts ns))
  | l : SqD ns (.lst (dInts ns))
theorem SqD.sq {ns : List Int} {d : D} (h : SqD ns d) : seqD d = some (dInts ns) := by cases h <;> rfl
theorem i_enumQ {ns : List Int} {d : D} (q : SqD ns d) (hm : X.mg "enumerate" = none) (h : PE X e (tD ρ d)) (hg : Gl X "enumerate" := by rfl) (hs : starEach [e] X.env = (false, eval e X.env) :: starEach [] X.env := by rfl) (hp : (backTo pos (starEach [] X.env)).any (·.1) = false := by rfl) (hs1 : starEach [e] X.env = [(false, eval e X.env)] := by rfl) : PI X (.Tuple elts kk tpos) (.Call (.Name "enumerate" p) [e] [] pos) (tI ρ (enumD (dInts ns))) := by
  cases q with
  | t => exact i_enum hm h hg hs hp
  | l => exact i_enumL hm h hg hs hs1
end
/-- the stage ahead of turn j -/
def prevS (s0 : Int) (es : List Int) (j : Nat) : Int := if j = 0 then s0 else es.getD (j - 1) 0
def optAt (es : List Int) (j : Nat) : D := match es[j]? with
  | some e => .int e
  | none => .non
theorem prevS_s {s0 : Int} {es : List Int} {j : Nat} (h : j < es.length) : prevS s0 es (j + 1) = es[j] := by
  unfold prevS
  rw [if_neg (by omega), Nat.add_sub_cancel, getD_get h]
/-- what ends_by walks: turn by turn the plan's next stage -/
structure EndQ (Fn : List D → Res → Prop) (plan : D) (tour view : List Int) (s0 : Int) (es : List Int) : Prop where
  n : tour.length ≤ 1000
  vl : view.length = tour.length
  el : es.length ≤ tour.length
  turn : ∀ (j : Nat) (h1 : j < tour.length) (h2 : j < view.length), j ≤ es.length → Fn [plan, .int tour[j], .int view[j], .int (prevS s0 es j)] (.ok (optAt es j))
def resE (es : List Int) (n : Nat) (a : Int) : Res := if es.length = n then .ok (.tup (dInts es)) else .ex a
def F_ends_by (Fn : List D → Res → Prop) (plan : D) (ds : List D) (r : Res) : Prop := ∃ (tour view : List Int) (dt dv : D) (ahead : Int) (es : List Int), ds = [plan, dt, dv, .int ahead] ∧ r = resE es tour.length (ahead + es.length) ∧ SqD tour dt ∧ SqD view dv ∧ EndQ Fn plan tour view 0 es
structure FoE (Y : Wo) (k : Nat) (x : Str) (ps : List Str) (F : List D → Res → Prop) : Prop where
  ex : ∃ fd, FnOk Y.P Y.w Y.K Y.mg Y.base (L2.CX Y.P Y.w) k (He.ga Y.K x) fd ps (spF (cuA Y.K) F) ∧ (∃ ds, Vals [.int 0] ds ∧ L2.Binds Y.K fd ps ds) ∧ L2.Binds Y.K fd ps []
  g : Y.mg x = some (.ref (He.ga Y.K x))
  kp : PySem.W.keepIn Y.K (.ref (He.ga Y.K x)) = true
theorem sc_ends_by : FnScope ["plan", "tour", "view", "ahead", "stage", "ends", "place", "dial"] ["plan", "tour", "view", "ahead"] (defScope s_ends_by) := ⟨rfl, rfl, rfl, by decide +kernel, rfl, by decide +kernel, by decide +kernel⟩
theorem fo_ends_by {Y : Wo} (hh : Y.hd) {C : Str} {ps : List Str} {ks : List Str} {fs : List D} {Fn : List D → Res → Prop} {j : Nat} (G : FoM Y j C "next_of" ps Fn) (hj : j ≤ 4) (hno : fieldIx "next_of" ks = none) : FoE Y 5 "ends_by" ["plan", "tour", "view", "ahead"] (F_ends_by Fn (.ins (He.ga Y.K C) ks fs)) := by
  have nd : (["plan", "tour", "view", "ahead", "stage", "ends", "place", "dial"] : List Str).Nodup := sc_ends_by.nd
  obtain ⟨fd, Fd⟩ := hh.d.def_ 35 (d := ds_ends_by) rfl
  refine ⟨⟨fd, okF (k := 4) (N := ["plan", "tour", "view", "ahead", "stage", "ends", "place", "dial"]) Fd sc_ends_by (by rintro ds r ⟨tour, view, dt, dv, ahead, es, rfl, _⟩; rfl) ?_, ?_, ?_⟩, hh.glo 35, Fd.kp⟩
  · rintro cdv A outer s H E ds r hr ⟨tour, view, dt, dv, ahead, es, rfl, rfl, qt, qv, h⟩
    refine ⟨anys 8, ?_⟩
    have hn := h.n
    have el := h.el
    have vl := h.vl
    have hen : (enumD (dInts tour)).length = tour.length := by rw [enumD_len, dInts_len]
    have U := fo_Unseen hh
    refine s_seq (s_set 4 nd x_int) ?_
    refine s_seq (s_setN 5 nd (n_lst (ds := []) a_nil (by decide))) ?_
    have turn : ∀ (t : Nat) (a b : D), (enumD (dInts tour))[t]? = some (.tup [a, b]) → t ≤ es.length → ∃ (h1 : t < tour.length) (h2 : t < view.length), a = .int t ∧ b = .int tour[t] ∧ Fn [.ins (He.ga Y.K C) ks fs, .int tour[t], .int view[t], .int (prevS 0 es t)] (.ok (optAt es t)) := fun t a b ht hle => by
      obtain ⟨y, hy, e⟩ := enumD_get ht
      obtain ⟨l1, rfl⟩ := dInts_get hy
      cases e
      exact ⟨l1, by omega, rfl, rfl, h.turn t l1 (by omega) hle⟩
    have vix : ∀ (t : Nat) (h2 : t < view.length), atI (dInts view) (t : Int) = some (.int view[t]) := fun t h2 => atI_int h2
    unfold resE
    by_cases hful : es.length = tour.length
    · rw [if_pos hful]
      refine s_seq (s_for2 6 7 nd (i_enumQ qt hh.b_enumerate (x_v 1)) (fun t => [.val (.ins (He.ga Y.K C) ks fs), .val dt, .val dv, .val (.int ahead), .val (.int (prevS 0 es t)), .own (.lst (dInts (es.take t))), .any, .any]) ⟨.inr rfl, .inr rfl, .inr rfl, .inr rfl, .inr rfl, .inr rfl, .inl rfl, .inl rfl, trivial⟩ enumD_two (fun t a b ht => ?_)) ?_
      · have htl : t < es.length := by have := (List.getElem?_eq_some_iff.mp ht).1; omega
        obtain ⟨h1, h2, rfl, rfl, hF⟩ := turn t a b ht (by omega)
        have eo : optAt es t = .int es[t] := by unfold optAt; rw [List.getElem?_eq_getElem htl]
        rw [eo] at hF
        refine s_seq (s_set (d := .int es[t]) 4 nd (x_m G hr (x_v 0) (a_cons (x_v 7) (a_cons (x_ix (x_v 2) (x_v 6) qv.sq (vix t h2)) (a_cons (x_v 4) a_nil))) hF hno hj)) ?_
        refine r_skip (t_is (t_isN (x_v 4)) rfl) ?_
        refine s_seq (s_app 5 (x_v 4) rfl (.inl rfl) (by rw [dInts_len, List.length_take]; omega)) ?_
        exact s_nil ⟨.inr rfl, .inr rfl, .inr rfl, .inr rfl, .inr (by rw [prevS_s htl]), .inr (by rw [List.take_succ_eq_append_getElem htl, ← dInts_app]; rfl), .inl rfl, .inl rfl, trivial⟩
      · rw [hen, ← hful, List.take_length]
        exact r_ret (x_tupM hh.b_tuple (n := 5) (.inl rfl)) sa
    · rw [if_neg hful]
      refine s_leave (s_for2X 6 7 es.length nd (i_enumQ qt hh.b_enumerate (x_v 1)) (fun t => [.val (.ins (He.ga Y.K C) ks fs), .val dt, .val dv, .val (.int ahead), .val (.int (prevS 0 es t)), .own (.lst (dInts (es.take t))), .any, .any]) ⟨.inr rfl, .inr rfl, .inr rfl, .inr rfl, .inr rfl, .inr rfl, .inl rfl, .inl rfl, trivial⟩ enumD_two (by rw [hen]; omega) (fun t a b ht htl => ?_) trivial (fun a b ht => ?_)) rfl
      · obtain ⟨h1, h2, rfl, rfl, hF⟩ := turn t a b ht (by omega)
        have eo : optAt es t = .int es[t] := by unfold optAt; rw [List.getElem?_eq_getElem htl]
        rw [eo] at hF
        refine s_seq (s_set (d := .int es[t]) 4 nd (x_m G hr (x_v 0) (a_cons (x_v 7) (a_cons (x_ix (x_v 2) (x_v 6) qv.sq (vix t h2)) (a_cons (x_v 4) a_nil))) hF hno hj)) ?_
        refine r_skip (t_is (t_isN (x_v 4)) rfl) ?_
        refine s_seq (s_app 5 (x_v 4) rfl (.inl rfl) (by rw [dInts_len, List.length_take]; omega)) ?_
        exact s_nil ⟨.inr rfl, .inr rfl, .inr rfl, .inr rfl, .inr (by rw [prevS_s htl]), .inr (by rw [List.take_succ_eq_append_getElem htl, ← dInts_app]; rfl), .inl rfl, .inl rfl, trivial⟩
      · obtain ⟨h1, h2, rfl, rfl, hF⟩ := turn es.length a b ht (Nat.le_refl _)
        have eo : optAt es es.length = .non := by unfold optAt; rw [List.getElem?_eq_none (Nat.le_refl _)]
        rw [eo] at hF
        refine s_seq (s_set (d := .non) 4 nd (x_m G hr (x_v 0) (a_cons (x_v 7) (a_cons (x_ix (x_v 2) (x_v 6) qv.sq (vix _ h2)) (a_cons (x_v 4) a_nil))) hF hno hj)) ?_
        refine r_take (t_is (t_isN (x_v 4)) rfl) (r_raise U hr (x_add (x_v 3) (x_v 6)) sa (takes_of rfl rfl rfl rfl)) rfl
  · exact FunD.binds1 Fd 3 0 (by simp [He.DefD.dvs, ds_ends_by]) rfl fun T kV doc pm an cdv ct us its h1 h2 => by
      match us, its, h1, h2 with
      | [_, _, _], [_], _, _ => exact ⟨_, rfl, rfl⟩
  · obtain ⟨ds, hv, hb⟩ := FunD.binds1 Fd (ps := ["plan", "tour", "view", "ahead"]) 4 1 (by simp [He.DefD.dvs, ds_ends_by]) rfl fun T kV doc pm an cdv ct us its h1 h2 => by
      match us, its, h1, h2 with
      | [_, _, _, _], [_], _, _ => exact ⟨_, rfl, rfl⟩
    cases hv
    exact hb
/-! ### begins_by -/
structure BegQ (Fn : List D → Res → Prop) (plan : D) (tour view : List Int) (s0 : Int) (bs : List Int) : Prop where
  n : tour.length ≤ 1000
  vl : view.length = tour.length
  bl : bs.length ≤ tour.length
  turn : ∀ (j p : Nat) (h1 : p < tour.length) (h2 : p < view.length), p + 1 + j = tour.length → j ≤ bs.length → Fn [plan, .int tour[p], .int view[p], .int (prevS s0 bs j)] (.ok (optAt bs j))
def resB (bs : List Int) (n : Nat) : Res := if bs.length = n then .ok (.tup (dInts bs.reverse)) else .ex ((n : Int) - 1 - bs.length)
def F_begins_by (Fn : List D → Res → Prop) (plan : D) (many : Int) (ds : List D) (r : Res) : Prop := ∃ (tour view : List Int) (dt dv : D) (bs : List Int), ds = [plan, dt, dv] ∧ r = resB bs tour.length ∧ SqD tour dt ∧ SqD view dv ∧ BegQ Fn plan tour view (many - 1) bs
theorem sc_begins_by : FnScope ["plan", "tour", "view", "stage", "begins", "place"] ["plan", "tour", "view"] (defScope s_begins_by) := ⟨rfl, rfl, rfl, by decide +kernel, rfl, by decide +kernel, by decide +kernel⟩
theorem x_lenQ {X : Cx} {ρ : List Sl} {e : Expr} {p pos : Pos} {ns : List Int} {d : D} (q : SqD ns d) (hm : X.mg "len" = none) (h : PE X e (tD ρ d)) (hg : Gl X "len" := by rfl) (hs : starEach (e :: []) X.env = (false, eval e X.env) :: starEach [] X.env := by rfl) (hp : (backTo pos (starEach [] X.env)).any (·.1) = false := by rfl) : PE X (.Call (.Name "len" p) [e] [] pos) (tD ρ (.int ns.length)) :=
  x_is (x_len (ds := dInts ns) q.sq hm h hg hs hp) (by rw [dInts_len])
theorem fo_begins_by {Y : Wo} (hh : Y.hd) {C : Str} {ps : List Str} {ks : List Str} {fs : List D} {Fn : List D → Res → Prop} {j jm : Nat} {many : Int} (G : FoM Y j C "last_of" ps Fn) (hj : j ≤ 4) (hno : fieldIx "last_of" ks = none) (na : NoAttr Y.K (He.ga Y.K C) "many") (hf : fieldIx "many" ks = some jm) (hd : fs[jm]? = some (.int many)) : Fo Y 5 "begins_by" ["plan", "tour", "view"] (F_begins_by Fn (.ins (He.ga Y.K C) ks fs) many) := by
  have nd : (["plan", "tour", "view", "stage", "begins", "place"] : List Str).Nodup := sc_begins_by.nd
  refine mkF (k := 4) (N := ["plan", "tour", "view", "stage", "begins", "place"]) hh 36 ds_begins_by sc_begins_by (fun _ _ _ _ _ _ us hl => match us, hl with | [_, _, _], _ => rfl) (by rintro ds r ⟨tour, view, dt, dv, bs, rfl, _⟩; rfl) ?_
  rintro cdv A outer s H E ds r hr ⟨tour, view, dt, dv, bs, rfl, rfl, qt, qv, h⟩
  have hn := h.n
  have bl := h.bl
  have vl := h.vl
  have U := fo_Unseen hh
  refine s_seq (s_set (d := .int (many - 1)) 3 nd (x_sub (x_fld (j := jm) (x_v 0) G.cl na hf hd) x_int)) ?_
  refine s_seq (s_setN 4 nd (n_lst (ds := []) a_nil (by decide))) ?_
  have turn : ∀ (t : Nat) (d : D), (rngD ((tour.length : Int) - 1) (-1) ((tour.length : Int) - 1 - -1).toNat)[t]? = some d → t ≤ bs.length → ∃ (p : Nat) (h1 : p < tour.length) (h2 : p < view.length), p + 1 + t = tour.length ∧ d = .int p ∧ Fn [.ins (He.ga Y.K C) ks fs, .int tour[p], .int view[p], .int (prevS (many - 1) bs t)] (.ok (optAt bs t)) := fun t d ht hle => by
    obtain ⟨hl, e⟩ := rngD_get ht
    have h1 : tour.length - 1 - t < tour.length := by omega
    refine ⟨tour.length - 1 - t, h1, by omega, by omega, ?_, h.turn t _ h1 (by omega) (by omega) hle⟩
    rw [e]; congr 1; omega
  have hit : ∀ {X : Cx} {ρ : List Sl} {e : Expr}, True := trivial
  have rlen : (rngD ((tour.length : Int) - 1) (-1) ((tour.length : Int) - 1 - -1).toNat).length = tour.length := by rw [rngD_len]; omega
  unfold resB
  by_cases hful : bs.length = tour.length
  · rw [if_pos hful]
    refine s_seq (s_forN 5 nd (i_dn (i := (tour.length : Int) - 1) (j := -1) hh.b_range (x_sub (x_lenQ qt hh.b_len (x_v 1)) x_int) (x_neg x_int) (x_neg x_int) (by omega)) (fun t => [.val (.ins (He.ga Y.K C) ks fs), .val dt, .val dv, .val (.int (prevS (many - 1) bs t)), .own (.lst (dInts (bs.take t))), .any]) ⟨.inr rfl, .inr rfl, .inr rfl, .inr rfl, .inr rfl, .inl rfl, trivial⟩ (fun t d ht => ?_)) ?_
    · have htl : t < bs.length := by have := (List.getElem?_eq_some_iff.mp ht).1; omega
      obtain ⟨p, h1, h2, h3, rfl, hF⟩ := turn t d ht (by omega)
      have eo : optAt bs t = .int bs[t] := by unfold optAt; rw [List.getElem?_eq_getElem htl]
      rw [eo] at hF
      refine s_seq (s_set (d := .int bs[t]) 3 nd (x_m G hr (x_v 0) (a_cons (x_ix (x_v 1) (x_v 5) qt.sq (atI_int h1)) (a_cons (x_ix (x_v 2) (x_v 5) qv.sq (atI_int h2)) (a_cons (x_v 3) a_nil))) hF hno hj)) ?_
      refine r_skip (t_is (t_isN (x_v 3)) rfl) ?_
      refine s_seq (s_app 4 (x_v 3) rfl (.inl rfl) (by rw [dInts_len, List.length_take]; omega)) ?_
      exact s_nil ⟨.inr rfl, .inr rfl, .inr rfl, .inr (by rw [prevS_s htl]), .inr (by rw [List.take_succ_eq_append_getElem htl, ← dInts_app]; rfl), .inl rfl, trivial⟩
    · rw [rlen, ← hful, List.take_length]
      exact r_ret (x_is (x_tupL hh.b_tuple (x_revM (n := 4) (.inl rfl))) (by rw [dInts_rev])) sa
  · rw [if_neg hful]
    refine s_leave (s_forNX 5 bs.length nd (i_dn (i := (tour.length : Int) - 1) (j := -1) hh.b_range (x_sub (x_lenQ qt hh.b_len (x_v 1)) x_int) (x_neg x_int) (x_neg x_int) (by omega)) (fun t => [.val (.ins (He.ga Y.K C) ks fs), .val dt, .val dv, .val (.int (prevS (many - 1) bs t)), .own (.lst (dInts (bs.take t))), .any]) ⟨.inr rfl, .inr rfl, .inr rfl, .inr rfl, .inr rfl, .inl rfl, trivial⟩ (by rw [rlen]; omega) (fun t d ht htl => ?_) trivial (fun d ht => ?_)) rfl
    · obtain ⟨p, h1, h2, h3, rfl, hF⟩ := turn t d ht (by omega)
      have eo : optAt bs t = .int bs[t] := by unfold optAt; rw [List.getElem?_eq_getElem htl]
      rw [eo] at hF
      refine s_seq (s_set (d := .int bs[t]) 3 nd (x_m G hr (x_v 0) (a_cons (x_ix (x_v 1) (x_v 5) qt.sq (atI_int h1)) (a_cons (x_ix (x_v 2) (x_v 5) qv.sq (atI_int h2)) (a_cons (x_v 3) a_nil))) hF hno hj)) ?_
      refine r_skip (t_is (t_isN (x_v 3)) rfl) ?_
      refine s_seq (s_app 4 (x_v 3) rfl (.inl rfl) (by rw [dInts_len, List.length_take]; omega)) ?_
      exact s_nil ⟨.inr rfl, .inr rfl, .inr rfl, .inr (by rw [prevS_s htl]), .inr (by rw [List.take_succ_eq_append_getElem htl, ← dInts_app]; rfl), .inl rfl, trivial⟩
    · obtain ⟨p, h1, h2, h3, rfl, hF⟩ := turn bs.length d ht (Nat.le_refl _)
      have eo : optAt bs bs.length = .non := by unfold optAt; rw [List.getElem?_eq_none (Nat.le_refl _)]
      rw [eo] at hF
      refine s_seq (s_set (d := .non) 3 nd (x_m G hr (x_v 0) (a_cons (x_ix (x_v 1) (x_v 5) qt.sq (atI_int h1)) (a_cons (x_ix (x_v 2) (x_v 5) qv.sq (atI_int h2)) (a_cons (x_v 3) a_nil))) hF hno hj)) ?_
      refine r_take (t_is (t_isN (x_v 3)) rfl) (r_raise U hr (x_is (x_v 5) ?_) sa (takes_of rfl rfl rfl rfl)) rfl
      congr 1
      omega
/-! ### the asked views -/
def viewOk (o i view : List Int) : Prop := view.length = (tourI o.length i.length).length ∧ ∀ (j : Nat) (h1 : j < (picks (o ++ i) (tourI o.length i.length)).length) (h2 : j < view.length), 0 ≤ view[j] ∧ view[j] < (picks (o ++ i) (tourI o.length i.length))[j]
theorem tourI_len (n m : Nat) : (tourI n m).length = 2 * n + m := by unfold tourI; simp [rgI_len]; omega
theorem tourI_mem {n m : Nat} {v : Int} (h : v ∈ tourI n m) : 0 ≤ v ∧ v < (n : Int) + m := by
  unfold tourI rgI at h
  simp only [List.mem_append, List.mem_reverse, List.mem_map, List.mem_range] at h
  rcases h with (⟨a, h1, h2⟩ | ⟨a, h1, h2⟩) | ⟨a, h1, h2⟩ <;> omega
/-! ### asked_tour -/
def F_asked_tour (ds : List D) (r : Res) : Prop := ∃ o i view : List Int, ds = [nestD o i, .tup (dInts view)] ∧ r = .ok (.tup (dInts (tourI o.length i.length))) ∧ SzB o ∧ SzB i ∧ viewOk o i view
theorem sc_asked_tour : FnScope ["nest", "view", "tour"] ["nest", "view"] (defScope s_asked_tour) := ⟨rfl, rfl, rfl, by decide +kernel, rfl, by decide +kernel, by decide +kernel⟩
theorem fo_asked_tour {Y : Wo} (hh : Y.hd) : Fo Y 5 "asked_tour" ["nest", "view"] F_asked_tour := by
  have nd : (["nest", "view", "tour"] : List Str).Nodup := sc_asked_tour.nd
  refine mkF (k := 4) (N := ["nest", "view", "tour"]) hh 34 ds_asked_tour sc_asked_tour (fun _ _ _ _ _ _ us hl => match us, hl with | [_, _], _ => rfl) (by rintro ds r ⟨o, i, view, rfl, rfl, ho, hi, hv⟩; rfl) ?_
  rintro cdv A outer s H E ds r hr ⟨o, i, view, rfl, rfl, ho, hi, hv⟩
  have l1 := ho.len
  have l2 := hi.len
  have hl := tourI_len o.length i.length
  refine s_seq (s_set (d := .tup (dInts (tourI o.length i.length))) 2 nd (x_f (fo_nest_tour hh) hr (a_cons (x_v 0) a_nil) ⟨o, i, rfl, rfl, ho, hi⟩)) ?_
  refine r_skip (t_not (t_val (c := true) (x_f (fo_is_view hh) hr (a_cons (x_f (fo_nest_dials hh) hr (a_cons (x_v 0) a_nil) ⟨o, i, rfl, rfl, ho, hi⟩) (a_cons (x_v 2) (a_cons (x_v 1) a_nil))) ⟨o ++ i, tourI o.length i.length, view, rfl, rfl, by omega, fun v hv => ?_, hv.1, hv.2⟩))) ?_
  · have := tourI_mem hv
    rw [List.length_append]
    omega
  exact r_ret (x_v 2) sa
end Sd

namespace Sd
open PySem PySem.Spec L2
open PyProof.Rows (envOfC)

section
variable {X : Cx} {W : WX} {ρ : List Sl} {ds : List D} {r : Res} {F : List D → Res → Prop} {j k : Nat} {ps : List Str} {x : Str} {p pos : Pos} {e : Expr} {es : List Expr}
/-- a call that leaves the last parameter at 0 -/
theorem x_fE (G : FoE ⟨X.prog, X.w, X.K, X.mg, X.base⟩ j x ps F) (hr : Room k X.A) (tk : Takes X W) (ha : PA X (e :: es) (tA' ρ ds)) (hF : F (ds ++ [.int 0]) r) (hj : j ≤ k := by decide) (hg : Gl X x := by rfl) (hdb : (x == ("__debug__" : Str)) = false := by decide) (he : starEach (e :: es) X.env = (false, eval e X.env) :: starEach es X.env := by rfl) (hpl : (backTo pos (starEach es X.env)).any (·.1) = false := by rfl) :
    PE X (.Call (.Name x p) (e :: es) [] pos) (tX W (cuA X.K) ρ r) := let ⟨_, G1, ⟨_, hv, hb⟩, _⟩ := G.ex; x_callXD (dfl := [.int 0]) G1 (hr.mono hj) G.g G.kp hb hv (fun _ => ⟨_, _, rfl, rfl, rfl⟩) tk ha hF hg hdb he hpl
theorem x_fE4 (G : FoE ⟨X.prog, X.w, X.K, X.mg, X.base⟩ j x ps F) (hr : Room k X.A) (tk : Takes X W) (ha : PA X (e :: es) (tA' ρ ds)) (hF : F ds r) (hj : j ≤ k := by decide) (hg : Gl X x := by rfl) (hdb : (x == ("__debug__" : Str)) = false := by decide) (he : starEach (e :: es) X.env = (false, eval e X.env) :: starEach es X.env := by rfl) (hpl : (backTo pos (starEach es X.env)).any (·.1) = false := by rfl) :
    PE X (.Call (.Name x p) (e :: es) [] pos) (tX W (cuA X.K) ρ r) := let ⟨_, G1, _, hb⟩ := G.ex; x_callX G1 (hr.mono hj) G.g G.kp hb tk ha hF hg hdb he hpl
end
/-! ### spans of a nest's view -/
abbrev EndN (Y : Wo) (o i view es : List Int) : Prop := EndQ (F_TellNest_next_of Y) (planD Y.K o i) (tourI o.length i.length) view 0 es
abbrev BegN (Y : Wo) (o i view bs : List Int) : Prop := BegQ (F_TellNest_last_of Y) (planD Y.K o i) (tourI o.length i.length) view ((corOf i).many * pr o - 1) bs
theorem fo_ends_nest {Y : Wo} (hh : Y.hd) (o i : List Int) : FoE Y 5 "ends_by" ["plan", "tour", "view", "ahead"] (F_ends_by (F_TellNest_next_of Y) (planD Y.K o i)) := fo_ends_by hh (fo_TellNest_next_of hh) (by decide) rfl
theorem fo_begs_nest {Y : Wo} (hh : Y.hd) (o i : List Int) : Fo Y 5 "begins_by" ["plan", "tour", "view"] (F_begins_by (F_TellNest_last_of Y) (planD Y.K o i) ((corOf i).many * pr o)) := fo_begins_by (jm := 2) hh (fo_TellNest_last_of hh) (by decide) rfl (hh.noat 103) rfl rfl
def vN (o i : List Int) : Nat := (tourI o.length i.length).length
/-! ### first_end -/
def F_first_end (Y : Wo) (ds : List D) (r : Res) : Prop := ∃ (o i view es : List Int), ds = [nestD o i, .tup (dInts view)] ∧ r = resE es (vN o i) es.length ∧ NOk o i ∧ viewOk o i view ∧ EndN Y o i view es
theorem sc_first_end : FnScope ["nest", "view", "tour"] ["nest", "view"] (defScope s_first_end) := ⟨rfl, rfl, rfl, by decide +kernel, rfl, by decide +kernel, by decide +kernel⟩
theorem fo_first_end {Y : Wo} (hh : Y.hd) : Fo Y 11 "first_end" ["nest", "view"] (F_first_end Y) := by
  have nd : (["nest", "view", "tour"] : List Str).Nodup := sc_first_end.nd
  refine mkF (k := 10) (N := ["nest", "view", "tour"]) hh 37 ds_first_end sc_first_end (fun _ _ _ _ _ _ us hl => match us, hl with | [_, _], _ => rfl) (by rintro ds r ⟨o, i, view, es, rfl, rfl, hn, hv, he⟩; rfl) ?_
  rintro cdv A outer s H E ds r hr ⟨o, i, view, es, rfl, rfl, hn, hv, he⟩
  refine s_seq (s_set (d := .tup (dInts (tourI o.length i.length))) 2 nd (x_f (fo_asked_tour hh) hr (a_cons (x_v 0) (a_cons (x_v 1) a_nil)) ⟨o, i, view, rfl, rfl, hn.zo, hn.zi, hv⟩)) ?_
  refine r_retF (x_fE (fo_ends_nest hh o i) hr (takes_of rfl rfl rfl rfl) (a_cons (x_mk (fo_TellNest_init hh) hr (a_cons (x_v 0) a_nil) ⟨o, i, rfl, rfl, rfl, hn.zo, hn.zi, hn.bM⟩) (a_cons (x_v 2) (a_cons (x_v 1) a_nil))) ⟨_, view, _, _, 0, es, rfl, ?_, .t, .t, he⟩)
  rw [Int.zero_add]; rfl
/-! ### last_begin -/
def F_last_begin (Y : Wo) (ds : List D) (r : Res) : Prop := ∃ (o i view bs : List Int), ds = [nestD o i, .tup (dInts view)] ∧ r = resB bs (vN o i) ∧ NOk o i ∧ viewOk o i view ∧ BegN Y o i view bs
theorem sc_last_begin : FnScope ["nest", "view", "tour"] ["nest", "view"] (defScope s_last_begin) := ⟨rfl, rfl, rfl, by decide +kernel, rfl, by decide +kernel, by decide +kernel⟩
theorem fo_last_begin {Y : Wo} (hh : Y.hd) : Fo Y 11 "last_begin" ["nest", "view"] (F_last_begin Y) := by
  have nd : (["nest", "view", "tour"] : List Str).Nodup := sc_last_begin.nd
  refine mkF (k := 10) (N := ["nest", "view", "tour"]) hh 38 ds_last_begin sc_last_begin (fun _ _ _ _ _ _ us hl => match us, hl with | [_, _], _ => rfl) (by rintro ds r ⟨o, i, view, bs, rfl, rfl, hn, hv, hb⟩; rfl) ?_
  rintro cdv A outer s H E ds r hr ⟨o, i, view, bs, rfl, rfl, hn, hv, hb⟩
  refine s_seq (s_set (d := .tup (dInts (tourI o.length i.length))) 2 nd (x_f (fo_asked_tour hh) hr (a_cons (x_v 0) (a_cons (x_v 1) a_nil)) ⟨o, i, view, rfl, rfl, hn.zo, hn.zi, hv⟩)) ?_
  exact r_retF (x_fX (fo_begs_nest hh o i) hr (takes_of rfl rfl rfl rfl) (a_cons (x_mk (fo_TellNest_init hh) hr (a_cons (x_v 0) a_nil) ⟨o, i, rfl, rfl, rfl, hn.zo, hn.zi, hn.bM⟩) (a_cons (x_v 2) (a_cons (x_v 1) a_nil))) ⟨_, view, _, _, bs, rfl, rfl, .t, .t, hb⟩)
/-- what is asked of the two walks together -/
structure SpN (Y : Wo) (o i view es bs : List Int) : Prop where
  n : NOk o i
  v : viewOk o i view
  e : EndN Y o i view es
  b : BegN Y o i view bs
  both : es.length = vN o i → bs.length = vN o i
def spanR (es bs : List Int) (n : Nat) : Res := if es.length = n then .ok (.tup [.int (bs.getD (n - 1) 0), .int (es.getD (n - 1) 0)]) else .ex es.length
theorem vN_pos {o i : List Int} (h : NOk o i) : 1 ≤ vN o i := by
  unfold vN
  rw [tourI_len]
  rcases h.ne with e | e
  · have := List.length_pos_iff.mpr e; omega
  · have := List.length_pos_iff.mpr e; omega
theorem atI_last {ns : List Int} {n : Nat} (h : ns.length = n) (hn : 1 ≤ n) : atI (dInts ns) (-1) = some (.int (ns.getD (n - 1) 0)) := by
  unfold atI
  have e : ixN (dInts ns).length (-1) = some (n - 1) := by
    unfold ixN
    rw [dInts_len, h, if_neg (by omega), if_pos (by omega)]
    congr 1; omega
  rw [e]
  show (dInts ns)[n - 1]? = _
  rw [List.getElem?_map, List.getElem?_eq_getElem (by omega), getD_get (by omega)]; rfl
theorem atI_rev0 {ns : List Int} {n : Nat} (h : ns.length = n) (hn : 1 ≤ n) : atI (dInts ns.reverse) 0 = some (.int (ns.getD (n - 1) 0)) := by
  have hl : 0 < ns.reverse.length := by rw [List.length_reverse]; omega
  have := atI_int (ns := ns.reverse) (i := 0) hl
  rw [List.getElem_reverse] at this
  rw [getD_get (by omega)]
  have e : ns[ns.length - 1 - 0] = ns[n - 1] := by congr 1; omega
  rw [← e]; exact this
/-! ### right_span -/
def F_right_span (Y : Wo) (ds : List D) (r : Res) : Prop := ∃ (o i view es bs : List Int), ds = [nestD o i, .tup (dInts view)] ∧ r = spanR es bs (vN o i) ∧ SpN Y o i view es bs
theorem sc_right_span : FnScope ["nest", "view", "tour", "plan", "last"] ["nest", "view"] (defScope s_right_span) := ⟨rfl, rfl, rfl, by decide +kernel, rfl, by decide +kernel, by decide +kernel⟩
theorem fo_right_span {Y : Wo} (hh : Y.hd) : Fo Y 11 "right_span" ["nest", "view"] (F_right_span Y) := by
  have nd : (["nest", "view", "tour", "plan", "last"] : List Str).Nodup := sc_right_span.nd
  refine mkF (k := 10) (N := ["nest", "view", "tour", "plan", "last"]) hh 40 ds_right_span sc_right_span (fun _ _ _ _ _ _ us hl => match us, hl with | [_, _], _ => rfl) (by rintro ds r ⟨o, i, view, es, bs, rfl, rfl, h⟩; rfl) ?_
  rintro cdv A outer s H E ds r hr ⟨o, i, view, es, bs, rfl, rfl, h⟩
  have hn := h.n
  have hp := vN_pos hn
  refine s_seq (s_set (d := .tup (dInts (tourI o.length i.length))) 2 nd (x_f (fo_asked_tour hh) hr (a_cons (x_v 0) (a_cons (x_v 1) a_nil)) ⟨o, i, view, rfl, rfl, hn.zo, hn.zi, h.v⟩)) ?_
  refine s_seq (s_set (d := planD Y.K o i) 3 nd (x_mk (fo_TellNest_init hh) hr (a_cons (x_v 0) a_nil) ⟨o, i, rfl, rfl, rfl, hn.zo, hn.zi, hn.bM⟩)) ?_
  unfold spanR
  by_cases hf : es.length = vN o i
  · rw [if_pos hf]
    have hb := h.both hf
    have e1 : resE es (tourI o.length i.length).length (0 + es.length) = .ok (.tup (dInts es)) := by unfold resE; exact if_pos hf
    have e2 : resB bs (tourI o.length i.length).length = .ok (.tup (dInts bs.reverse)) := by unfold resB; exact if_pos hb
    refine s_seq (s_set (d := .int (es.getD (vN o i - 1) 0)) 4 nd (x_ix (ds := dInts es) (d1 := .tup (dInts es)) (x_dn (W := wE E) (CU := cuA Y.K) (x_fE (fo_ends_nest hh o i) hr (takes_of rfl rfl rfl rfl) (a_cons (x_v 3) (a_cons (x_v 2) (a_cons (x_v 1) a_nil))) ⟨_, view, _, _, 0, es, rfl, e1.symm, .t, .t, h.e⟩)) (x_neg x_int) rfl (atI_last hf hp))) ?_
    exact r_ret (x_tup (a_cons (x_ix (ds := dInts bs.reverse) (d1 := .tup (dInts bs.reverse)) (x_dn (W := wE E) (CU := cuA Y.K) (x_fX (fo_begs_nest hh o i) hr (takes_of rfl rfl rfl rfl) (a_cons (x_v 3) (a_cons (x_v 2) (a_cons (x_v 1) a_nil))) ⟨_, view, _, _, bs, rfl, e2.symm, .t, .t, h.b⟩)) x_int rfl (atI_rev0 hb hp)) (a_cons (x_v 4) a_nil)) (Nat.le_of_ble_eq_true rfl)) sa
  · rw [if_neg hf]
    have e1 : resE es (tourI o.length i.length).length (0 + es.length) = .ex es.length := by unfold resE; rw [Int.zero_add]; exact if_neg hf
    exact s_setE 4 nd (x_subX (x_fE (fo_ends_nest hh o i) hr (takes_of rfl rfl rfl rfl) (a_cons (x_v 3) (a_cons (x_v 2) (a_cons (x_v 1) a_nil))) ⟨_, view, _, _, 0, es, rfl, e1.symm, .t, .t, h.e⟩) (x_neg (ρ := [.any]) x_int)) sa
def toldR (es bs : List Int) (n : Nat) : Res := if es.length = n then .ok (.int (bs.getD (n - 1) 0)) else .ex es.length
/-! ### told_stage -/
def F_told_stage (Y : Wo) (ds : List D) (r : Res) : Prop := ∃ (o i view es bs : List Int), ds = [nestD o i, .tup (dInts view)] ∧ r = toldR es bs (vN o i) ∧ SpN Y o i view es bs
theorem sc_told_stage : FnScope ["nest", "view"] ["nest", "view"] (defScope s_told_stage) := ⟨rfl, rfl, rfl, by decide +kernel, rfl, by decide +kernel, by decide +kernel⟩
theorem fo_told_stage {Y : Wo} (hh : Y.hd) : Fo Y 12 "told_stage" ["nest", "view"] (F_told_stage Y) := by
  have nd : (["nest", "view"] : List Str).Nodup := sc_told_stage.nd
  refine mkF (k := 11) (N := ["nest", "view"]) hh 41 ds_told_stage sc_told_stage (fun _ _ _ _ _ _ us hl => match us, hl with | [_, _], _ => rfl) (by rintro ds r ⟨o, i, view, es, bs, rfl, rfl, h⟩; rfl) ?_
  rintro cdv A outer s H E ds r hr ⟨o, i, view, es, bs, rfl, rfl, h⟩
  unfold toldR
  by_cases hf : es.length = vN o i
  · rw [if_pos hf]
    exact r_ret (x_ix (d1 := .tup [.int (bs.getD (vN o i - 1) 0), .int (es.getD (vN o i - 1) 0)]) (ds := [.int (bs.getD (vN o i - 1) 0), .int (es.getD (vN o i - 1) 0)]) (x_dn (W := wE E) (CU := cuA Y.K) (x_fX (fo_right_span hh) hr (takes_of rfl rfl rfl rfl) (a_cons (x_v 0) (a_cons (x_v 1) a_nil)) ⟨o, i, view, es, bs, rfl, by unfold spanR; rw [if_pos hf], h⟩)) x_int rfl rfl) sa
  · rw [if_neg hf]
    exact r_retF (r := .ex es.length) (x_subX (x_fX (fo_right_span hh) hr (takes_of rfl rfl rfl rfl) (a_cons (x_v 0) (a_cons (x_v 1) a_nil)) ⟨o, i, view, es, bs, rfl, by unfold spanR; rw [if_neg hf], h⟩) (x_int (ρ := [.any])))
def seenR (es : List Int) (n : Nat) : D := .bl (decide (es.length = n))
/-! ### is_seen -/
def F_is_seen (Y : Wo) (ds : List D) (r : Res) : Prop := ∃ (o i view es : List Int), ds = [nestD o i, .tup (dInts view)] ∧ r = .ok (seenR es (vN o i)) ∧ NOk o i ∧ viewOk o i view ∧ EndN Y o i view es
theorem sc_is_seen : FnScope ["nest", "view"] ["nest", "view"] (defScope s_is_seen) := ⟨rfl, rfl, rfl, by decide +kernel, rfl, by decide +kernel, by decide +kernel⟩
theorem fo_is_seen {Y : Wo} (hh : Y.hd) : Fo Y 12 "is_seen" ["nest", "view"] (F_is_seen Y) := by
  have nd : (["nest", "view"] : List Str).Nodup := sc_is_seen.nd
  refine mkF (k := 11) (N := ["nest", "view"]) hh 39 ds_is_seen sc_is_seen (fun _ _ _ _ _ _ us hl => match us, hl with | [_, _], _ => rfl) (by rintro ds r ⟨o, i, view, es, rfl, rfl, hn, hv, he⟩; rfl) ?_
  rintro cdv A outer s H E ds r hr ⟨o, i, view, es, rfl, rfl, hn, hv, he⟩
  have U := fo_Unseen hh
  unfold seenR
  by_cases hf : es.length = vN o i
  · rw [decide_eq_true hf]
    have er : resE es (vN o i) es.length = .ok (.tup (dInts es)) := by unfold resE; exact if_pos hf
    refine s_seq (s_tryO U (takes_of rfl rfl rfl rfl) (o := .nx [.val (nestD o i), .val (.tup (dInts view))]) (fun W' pn xe tk hpo => ?_) (fun _ _ h => by cases h) (fun a oe pn => pss_never)) (r_ret x_bl sa)
    refine s_seq (s_expr (d := .tup (dInts es)) (x_dn (W := W') (CU := cuA Y.K) (x_fX (fo_first_end hh) hr tk (a_cons (x_v 0) (a_cons (x_v 1) a_nil)) ⟨o, i, view, es, rfl, er.symm, hn, hv, he⟩))) (s_nil (SubL.refl _))
  · rw [decide_eq_false hf]
    have er : resE es (vN o i) es.length = .ex es.length := by unfold resE; exact if_neg hf
    refine s_leave (s_tryE U (takes_of rfl rfl rfl rfl) (ρ1 := [.val (nestD o i), .val (.tup (dInts view))]) (k := es.length) (fun W' pn xe tk hpo => ?_) (fun a oe pn => ?_) (fun _ _ h => by cases h)) rfl
    · exact s_leave (s_exprE (x_fX (fo_first_end hh) hr tk (a_cons (x_v 0) (a_cons (x_v 1) a_nil)) ⟨o, i, view, es, rfl, er.symm, hn, hv, he⟩)) rfl
    · exact r_ret x_bl sa
end Sd

namespace Sd
open PySem PySem.Spec L2
open PyProof.Rows (envOfC)

/-! ### row_at -/
def F_row_at (ds : List D) (r : Res) : Prop := ∃ (o i : List Int) (st k : Int), ds = [nestD o i, .int st] ∧ r = .ok (.tup (dInts (nestVals o i st k (corOf i).top))) ∧ NOk o i ∧ 0 ≤ st ∧ st < (corOf i).many * pr o ∧ (corOf i).Left (st % (corOf i).many) k
theorem sc_row_at : FnScope ["nest", "stage", "halves"] ["nest", "stage"] (defScope s_row_at) := ⟨rfl, rfl, rfl, by decide +kernel, rfl, by decide +kernel, by decide +kernel⟩
theorem fo_row_at {Y : Wo} (hh : Y.hd) : Fo Y 6 "row_at" ["nest", "stage"] F_row_at := by
  have nd : (["nest", "stage", "halves"] : List Str).Nodup := sc_row_at.nd
  refine mkF (k := 5) (N := ["nest", "stage", "halves"]) hh 42 ds_row_at sc_row_at (fun _ _ _ _ _ _ us hl => match us, hl with | [_, _], _ => rfl) (by rintro ds r ⟨o, i, st, k, rfl, rfl, hn, h0, h1, hk⟩; rfl) ?_
  rintro cdv A outer s H E ds r hr ⟨o, i, st, k, rfl, rfl, hn, h0, h1, hk⟩
  refine s_seq (s_set (d := (corOf i).hD) 2 nd (x_f (fo_d_split hh) hr (a_cons (x_ix (x_v 0) x_int (nestD_it o i) rfl) a_nil) ⟨i, rfl, rfl, hn.zi⟩)) ?_
  refine r_skip (t_not (t_val (c := true) (x_f (fo_d_is_below hh) hr (a_cons (x_v 1) (a_cons (x_f (fo_d_nest_many hh) hr (a_cons (x_v 0) (a_cons (x_v 2) a_nil)) ⟨o, i, rfl, rfl, hn.zo, hn.zi, hn.bM.mono (by decide)⟩) a_nil)) ⟨st, _, rfl, rfl, h0, by rw [Int.mul_comm]; exact h1⟩))) ?_
  exact r_ret (x_f (fo_d_nest_values hh) hr (a_cons (x_v 0) (a_cons (x_v 2) (a_cons (x_v 1) a_nil))) ⟨o, i, st, k, _, rfl, rfl, hn.zo, hn.zi, h0, (hn.bT.le h0 (by omega)).mono (by decide), hn.bM.mono (by decide), hk, Cor.top_left (corOf_ok hn.zi)⟩) sa
/-! ### stage_by -/
def F_stage_by (ds : List D) (r : Res) : Prop := ∃ (o i row : List Int) (st : Int), ds = [nestD o i, .tup (dInts row)] ∧ r = .ok (.int (cpl o row * (corOf i).many + st)) ∧ NOk o i ∧ RowOk (o ++ i) row ∧ F_d_core_place [.tup (dInts (corOf i).sizes), (corOf i).hD, .tup (dInts (backL (row.drop o.length) (coreMoved i) i (cpl o row)))] (.ok (.int st))
theorem sc_stage_by : FnScope ["nest", "row"] ["nest", "row"] (defScope s_stage_by) := ⟨rfl, rfl, rfl, by decide +kernel, rfl, by decide +kernel, by decide +kernel⟩
theorem fo_stage_by {Y : Wo} (hh : Y.hd) : Fo Y 6 "stage_by" ["nest", "row"] F_stage_by := by
  have nd : (["nest", "row"] : List Str).Nodup := sc_stage_by.nd
  refine mkF (k := 5) (N := ["nest", "row"]) hh 43 ds_stage_by sc_stage_by (fun _ _ _ _ _ _ us hl => match us, hl with | [_, _], _ => rfl) (by rintro ds r ⟨o, i, row, st, rfl, rfl, hn, hrow, hF⟩; rfl) ?_
  rintro cdv A outer s H E ds r hr ⟨o, i, row, st, rfl, rfl, hn, hrow, hF⟩
  have l1 := hn.zo.len
  have l2 := hn.zi.len
  have e1 := hrow.1
  rw [List.length_append] at e1
  refine r_skip (t_not (t_val (c := true) (x_f (fo_is_row hh) hr (a_cons (x_is (x_catT (x_ix (x_v 0) x_int (nestD_it o i) rfl) (x_ix (x_v 0) x_int (nestD_it o i) rfl) (by rw [dInts_len, dInts_len]; omega)) (by rw [dInts_app2])) (a_cons (x_v 1) a_nil)) ⟨o ++ i, row, rfl, rfl, hrow.1, by rw [List.length_append]; omega, hrow.2⟩))) ?_
  exact r_ret (x_f (fo_d_nest_place hh) hr (a_cons (x_v 0) (a_cons (x_f (fo_d_split hh) hr (a_cons (x_ix (x_v 0) x_int (nestD_it o i) rfl) a_nil) ⟨i, rfl, rfl, hn.zi⟩) (a_cons (x_v 1) a_nil))) ⟨o, i, row, (corOf i).top, st, rfl, rfl, hn.zo, hn.zi, e1, hn.bM.mono (by decide), Cor.top_left (corOf_ok hn.zi), hF⟩) sa
/-! ### a core's own view -/
abbrev EndC (Y : Wo) (i seen es : List Int) : Prop := EndQ (F_TellCore_next_of Y) (coreD Y.K i) (rgI 0 seen.length) seen 0 es
abbrev BegC (Y : Wo) (i seen bs : List Int) : Prop := BegQ (F_TellCore_last_of Y) (coreD Y.K i) (rgI 0 seen.length) seen ((corOf i).many - 1) bs
theorem fo_ends_core {Y : Wo} (hh : Y.hd) (i : List Int) : FoE Y 5 "ends_by" ["plan", "tour", "view", "ahead"] (F_ends_by (F_TellCore_next_of Y) (coreD Y.K i)) := fo_ends_by hh (fo_TellCore_next_of hh) (by decide) rfl
theorem fo_begs_core {Y : Wo} (hh : Y.hd) (i : List Int) : Fo Y 5 "begins_by" ["plan", "tour", "view"] (F_begins_by (F_TellCore_last_of Y) (coreD Y.K i) (corOf i).many) := fo_begins_by (jm := 1) hh (fo_TellCore_last_of hh) (by decide) rfl (hh.noat 94) rfl rfl
structure SpC (Y : Wo) (i seen es bs : List Int) : Prop where
  p : 1 ≤ seen.length
  l : seen.length ≤ 1000
  e : EndC Y i seen es
  b : BegC Y i seen bs
  both : es.length = seen.length → bs.length = seen.length
def coreR (es bs : List Int) (n : Nat) (a : Int) : Res := if es.length = n then .ok (.int (bs.getD (n - 1) 0)) else .ex (a + es.length)
/-! ### core_told -/
def F_core_told (Y : Wo) (ds : List D) (r : Res) : Prop := ∃ (i seen es bs : List Int) (ahead : Int), ds = [coreD Y.K i, .lst (dInts seen), .int ahead] ∧ r = coreR es bs seen.length ahead ∧ SpC Y i seen es bs
theorem sc_core_told : FnScope ["core", "seen", "ahead", "places"] ["core", "seen", "ahead"] (defScope s_core_told) := ⟨rfl, rfl, rfl, by decide +kernel, rfl, by decide +kernel, by decide +kernel⟩
theorem fo_core_told {Y : Wo} (hh : Y.hd) : Fo Y 6 "core_told" ["core", "seen", "ahead"] (F_core_told Y) := by
  have nd : (["core", "seen", "ahead", "places"] : List Str).Nodup := sc_core_told.nd
  refine mkF (k := 5) (N := ["core", "seen", "ahead", "places"]) hh 44 ds_core_told sc_core_told (fun _ _ _ _ _ _ us hl => match us, hl with | [_, _, _], _ => rfl) (by rintro ds r ⟨i, seen, es, bs, ahead, rfl, rfl, h⟩; rfl) ?_
  rintro cdv A outer s H E ds r hr ⟨i, seen, es, bs, ahead, rfl, rfl, h⟩
  have hl := h.l
  have hp := h.p
  refine s_seq (s_set (d := .lst (dInts (rgI 0 seen.length))) 3 nd (x_is (x_lstRg hh.b_list (rg_1 hh.b_range (x_lenQ .l hh.b_len (x_v 1))) (by omega)) (by rw [Int.sub_zero, Int.toNat_natCast]))) ?_
  have el : (rgI 0 seen.length).length = seen.length := rgI_len
  unfold coreR
  by_cases hf : es.length = seen.length
  · rw [if_pos hf]
    have hb := h.both hf
    have e1 : resE es (rgI 0 seen.length).length (ahead + es.length) = .ok (.tup (dInts es)) := by unfold resE; rw [el]; exact if_pos hf
    have e2 : resB bs (rgI 0 seen.length).length = .ok (.tup (dInts bs.reverse)) := by unfold resB; rw [el]; exact if_pos hb
    refine s_seq (s_expr (d := .tup (dInts es)) (x_dn (W := wE E) (CU := cuA Y.K) (x_fE4 (fo_ends_core hh i) hr (takes_of rfl rfl rfl rfl) (a_cons (x_v 0) (a_cons (x_v 3) (a_cons (x_v 1) (a_cons (x_v 2) a_nil)))) ⟨_, seen, _, _, ahead, es, rfl, e1.symm, .l, .l, h.e⟩))) ?_
    exact r_ret (x_ix (ds := dInts bs.reverse) (d1 := .tup (dInts bs.reverse)) (x_dn (W := wE E) (CU := cuA Y.K) (x_fX (fo_begs_core hh i) hr (takes_of rfl rfl rfl rfl) (a_cons (x_v 0) (a_cons (x_v 3) (a_cons (x_v 1) a_nil))) ⟨_, seen, _, _, bs, rfl, e2.symm, .l, .l, h.b⟩)) x_int rfl (atI_rev0 hb hp)) sa
  · rw [if_neg hf]
    have e1 : resE es (rgI 0 seen.length).length (ahead + es.length) = .ex (ahead + es.length) := by unfold resE; rw [el]; exact if_neg hf
    exact s_leave (s_exw (s_exprE (x_fE4 (fo_ends_core hh i) hr (takes_of rfl rfl rfl rfl) (a_cons (x_v 0) (a_cons (x_v 3) (a_cons (x_v 1) (a_cons (x_v 2) a_nil)))) ⟨_, seen, _, _, ahead, es, rfl, e1.symm, .l, .l, h.e⟩)) sa) rfl
end Sd

namespace Sd
open PySem PySem.Spec L2
open PyProof.Rows (envOfC)

/-! ### the weak reader -/
def wkLap (o : List Int) (cm : Int) (j : Nat) (w : Int) : Int := w / (spanI o cm j * o.getD j 0)
def wkFi (o view : List Int) (cm : Int) (j : Nat) (w : Int) : Int := (view.getD j 0 + wkLap o cm j w) % o.getD j 0
def wkLa (o view : List Int) (cm : Int) (j : Nat) (w : Int) : Int := (view.getD (view.length - 1 - j) 0 + wkLap o cm j w) % o.getD j 0
def wkS (o view : List Int) (cm : Int) : Nat → Int
  | 0 => 0
  | j + 1 => wkS o view cm j + wkFi o view cm j (wkS o view cm j) * spanI o cm j
abbrev wF (o view : List Int) (cm : Int) (j : Nat) : Int := wkFi o view cm j (wkS o view cm j)
abbrev wL (o view : List Int) (cm : Int) (j : Nat) : Int := wkLa o view cm j (wkS o view cm j)
def wkSeen (o i view : List Int) (cm : Int) : List Int := (List.range i.length).map fun p => coreVal i p (view.getD (o.length + p) 0) (wkS o view cm o.length / cm)
theorem wkS_bd {o i view : List Int} (h : NOk o i) : ∀ j, j ≤ o.length → 0 ≤ wkS o view (corOf i).many j ∧ wkS o view (corOf i).many j + (corOf i).many * pr (o.drop j) ≤ (corOf i).many * pr o
  | 0, _ => by show 0 ≤ (0 : Int) ∧ 0 + _ ≤ _; rw [List.drop_zero]; omega
  | j + 1, hj => by
    obtain ⟨a, b⟩ := wkS_bd (view := view) h j (by omega)
    have hl : j < o.length := by omega
    obtain ⟨s1, s2, s3, s4⟩ := h.span hl
    have m0 := Int.emod_nonneg (view.getD j 0 + wkLap o (corOf i).many j (wkS o view (corOf i).many j)) (show o.getD j 0 ≠ 0 by omega)
    have m1 := Int.emod_lt_of_pos (view.getD j 0 + wkLap o (corOf i).many j (wkS o view (corOf i).many j)) (show 0 < o.getD j 0 by omega)
    have e1 : (corOf i).many * pr (o.drop j) = o.getD j 0 * spanI o (corOf i).many j := by
      unfold spanI
      rw [pr_drop hl, getD_get hl, ← Int.mul_assoc, ← Int.mul_assoc, Int.mul_comm (corOf i).many o[j]]
    have p0 : 0 ≤ wF o view (corOf i).many j * spanI o (corOf i).many j := Int.mul_nonneg m0 (by omega)
    have p1 : (wF o view (corOf i).many j + 1) * spanI o (corOf i).many j ≤ o.getD j 0 * spanI o (corOf i).many j := Int.mul_le_mul_of_nonneg_right (by show _ + 1 ≤ _; unfold wF wkFi; omega) (by omega)
    rw [Int.add_mul, Int.one_mul] at p1
    have e2 : (corOf i).many * pr (o.drop (j + 1)) = spanI o (corOf i).many j := rfl
    show 0 ≤ wkS o view (corOf i).many j + wF o view (corOf i).many j * spanI o (corOf i).many j ∧ wkS o view (corOf i).many j + wF o view (corOf i).many j * spanI o (corOf i).many j + _ ≤ _
    omega
def wkOut (o view : List Int) (cm : Int) (m : Nat) : Res := if wL o view cm m < wF o view cm m - 1 then .ex ((view.length : Int) - 1 - m) else .ok (.tup [.int m, .int (wkS o view cm m + max (wF o view cm m) (wL o view cm m) * spanI o cm m)])
def wkEnd (es bs : List Int) (n m : Nat) (w : Int) : Res := if es.length = m then .ok (.tup [.int n, .int (w + bs.getD (m - 1) 0)]) else .ex ((n : Int) + es.length)
def WkR (Y : Wo) (o i view : List Int) (r : Res) : Prop :=
  (∃ m, m < o.length ∧ (∀ j, j < m → wF o view (corOf i).many j = wL o view (corOf i).many j) ∧ wF o view (corOf i).many m ≠ wL o view (corOf i).many m ∧ r = wkOut o view (corOf i).many m) ∨
  ((∀ j, j < o.length → wF o view (corOf i).many j = wL o view (corOf i).many j) ∧ ((i = [] ∧ r = .ok (.tup [.int o.length, .int (wkS o view (corOf i).many o.length)])) ∨
    (i ≠ [] ∧ ∃ es bs, SpC Y i (wkSeen o i view (corOf i).many) es bs ∧ r = wkEnd es bs o.length i.length (wkS o view (corOf i).many o.length))))
theorem viewOk_len {o i view : List Int} (h : viewOk o i view) : view.length = 2 * o.length + i.length := by rw [h.1, tourI_len]
/-! ### weak_way -/
def F_weak_way (Y : Wo) (ds : List D) (r : Res) : Prop := ∃ (o i view : List Int), ds = [nestD o i, .tup (dInts view)] ∧ NOk o i ∧ viewOk o i view ∧ WkR Y o i view r
theorem sc_weak_way : FnScope ["nest", "view", "outer", "inner", "plan", "stage", "dial", "size", "span", "lap", "place", "first", "last", "many", "copy", "seen"] ["nest", "view"] (defScope s_weak_way) := ⟨rfl, rfl, rfl, by decide +kernel, rfl, by decide +kernel, by decide +kernel⟩
theorem fo_weak_way {Y : Wo} (hh : Y.hd) : Fo Y 11 "weak_way" ["nest", "view"] (F_weak_way Y) := by
  have nd : (["nest", "view", "outer", "inner", "plan", "stage", "dial", "size", "span", "lap", "place", "first", "last", "many", "copy", "seen"] : List Str).Nodup := sc_weak_way.nd
  refine mkF (k := 10) (N := ["nest", "view", "outer", "inner", "plan", "stage", "dial", "size", "span", "lap", "place", "first", "last", "many", "copy", "seen"]) hh 45 ds_weak_way sc_weak_way (fun _ _ _ _ _ _ us hl => match us, hl with | [_, _], _ => rfl) (by rintro ds r ⟨o, i, view, rfl, hn, hv, hW⟩; rfl) ?_
  rintro cdv A outer s H E ds r hr ⟨o, i, view, rfl, hn, hv, hW⟩
  have U := fo_Unseen hh
  have l1 := hn.zo.len
  have l2 := hn.zi.len
  have vl := viewOk_len hv
  have hcm := hn.pos
  have hcS : Sm (corOf i).many := hn.bM.mono (by decide)
  refine s_seq (s_asg2 (a := .tup (dInts o)) (b := .tup (dInts i)) 2 3 nd (x_v 0)) ?_
  refine s_seq (s_expr (x_f (fo_asked_tour hh) hr (a_cons (x_v 0) (a_cons (x_v 1) a_nil)) ⟨o, i, view, rfl, rfl, hn.zo, hn.zi, hv⟩)) ?_
  refine s_seq (s_set (d := planD Y.K o i) 4 nd (x_mk (fo_TellNest_init hh) hr (a_cons (x_v 0) a_nil) ⟨o, i, rfl, rfl, rfl, hn.zo, hn.zi, hn.bM⟩)) ?_
  refine s_seq (s_set 5 nd x_int) ?_
  let R : Nat → List Sl := fun j => [.val (nestD o i), .val (.tup (dInts view)), .val (.tup (dInts o)), .val (.tup (dInts i)), .val (planD Y.K o i), .val (.int (wkS o view (corOf i).many j)), .any, .any, .any, .any, .any, .any, .any, .any, .any, .any]
  have hen : (enumD (dInts o)).length = o.length := by rw [enumD_len, dInts_len]
  have turn : ∀ (t : Nat) (a b : D), (enumD (dInts o))[t]? = some (.tup [a, b]) → ∃ (h1 : t < o.length), a = .int t ∧ b = .int (o.getD t 0) := fun t a b ht => by
    obtain ⟨y, hy, e⟩ := enumD_get ht
    obtain ⟨l1, rfl⟩ := dInts_get hy
    cases e
    exact ⟨l1, rfl, by rw [getD_get l1]⟩
  have sB : ∀ j, j ≤ o.length → 0 ≤ wkS o view (corOf i).many j ∧ Bd 1700 (wkS o view (corOf i).many j) := fun j hj => by
    obtain ⟨a, b⟩ := wkS_bd (view := view) hn j hj
    have := Int.mul_pos hcm (hn.zo.drop j).pos
    exact ⟨a, hn.bT.le a (by omega)⟩
  have fB : ∀ j, j < o.length → (0 ≤ wF o view (corOf i).many j ∧ Sm (wF o view (corOf i).many j)) ∧ (0 ≤ wL o view (corOf i).many j ∧ Sm (wL o view (corOf i).many j)) := fun j hj => by
    obtain ⟨s1, s2, s3, s4⟩ := hn.span hj
    have h1 := Int.emod_nonneg (view.getD j 0 + wkLap o (corOf i).many j (wkS o view (corOf i).many j)) (show o.getD j 0 ≠ 0 by omega)
    have h2 := Int.emod_lt_of_pos (view.getD j 0 + wkLap o (corOf i).many j (wkS o view (corOf i).many j)) (show 0 < o.getD j 0 by omega)
    have h3 := Int.emod_nonneg (view.getD (view.length - 1 - j) 0 + wkLap o (corOf i).many j (wkS o view (corOf i).many j)) (show o.getD j 0 ≠ 0 by omega)
    have h4 := Int.emod_lt_of_pos (view.getD (view.length - 1 - j) 0 + wkLap o (corOf i).many j (wkS o view (corOf i).many j)) (show 0 < o.getD j 0 by omega)
    have sS : Sm (o.getD j 0) := s4.mono (by decide)
    exact ⟨⟨h1, sS.le h1 (Int.le_of_lt h2)⟩, ⟨h3, sS.le h3 (Int.le_of_lt h4)⟩⟩
  rcases hW with ⟨m, hm, heq, hne, rfl⟩ | ⟨heq, hW⟩
  · refine s_leave (s_for2X 6 7 m nd (i_enum hh.b_enumerate (x_v 2)) R ⟨.inr rfl, .inr rfl, .inr rfl, .inr rfl, .inr rfl, .inr rfl, .inl rfl, .inl rfl, .inl rfl, .inl rfl, .inl rfl, .inl rfl, .inl rfl, .inl rfl, .inl rfl, .inl rfl, trivial⟩ enumD_two (by rw [hen]; exact hm) (fun t a b ht htl => ?_) (by unfold wkOut; split <;> trivial) (fun a b ht => ?_)) (by unfold wkOut; split <;> rfl)
    · obtain ⟨h1, rfl, rfl⟩ := turn t a b ht
      obtain ⟨s1, s2, s3, s4⟩ := hn.span h1
      obtain ⟨w0, wB⟩ := sB t (by omega)
      obtain ⟨⟨f0, fS⟩, ⟨g0, gS⟩⟩ := fB t h1
      refine s_seq (s_set 8 nd (x_pspan (x_v 4) hh (x_v 6) h1)) ?_
      refine s_seq (s_set (d := .int (wkLap o (corOf i).many t (wkS o view (corOf i).many t))) 9 nd (x_divS (x_v 5) (x_mulS (x_v 8) (x_v 7) (s2.mono (by decide)) (s4.mono (by decide))) (Int.mul_pos s1 (by omega)) ((s2.mul s4).mono (by decide)))) ?_
      refine s_seq (s_set (d := .int ((view.length : Int) - 1 - t)) 10 nd (x_sub (x_sub (x_lenI hh.b_len (x_v 1)) x_int) (x_v 6))) ?_
      refine s_seq (s_set (d := .int (wF o view (corOf i).many t)) 11 nd (x_is (x_mod (x_add (x_ixI (n := t) (x_v 1) (x_v 6) rfl (by omega)) (x_v 9)) (x_v 7) (by omega)) (by unfold wF wkFi; rw [getD_get (l := view) (by omega)]))) ?_
      refine s_seq (s_set (d := .int (wL o view (corOf i).many t)) 12 nd (x_is (x_mod (x_add (x_ixI (n := view.length - 1 - t) (x_v 1) (x_v 10) (by omega) (by omega)) (x_v 9)) (x_v 7) (by omega)) (by unfold wL wkLa; rw [getD_get (l := view) (by omega)]))) ?_
      refine r_skip (t_is (t_lt (x_v 12) (x_sub (x_v 11) x_int)) (decide_eq_false (by rw [(heq t htl)]; omega))) ?_
      refine r_skip (t_is (t_ne (x_v 11) (x_v 12) rfl) (by rw [decide_eq_true (heq t htl)]; rfl)) ?_
      refine s_seq (s_augA 5 nd (x_mulS (x_v 11) (x_v 8) fS (s2.mono (by decide)))) ?_
      exact s_nil ⟨.inr rfl, .inr rfl, .inr rfl, .inr rfl, .inr rfl, .inr rfl, .inl rfl, .inl rfl, .inl rfl, .inl rfl, .inl rfl, .inl rfl, .inl rfl, .inl rfl, .inl rfl, .inl rfl, trivial⟩
    · let t := m
      obtain ⟨h1, rfl, rfl⟩ := turn m a b ht
      obtain ⟨s1, s2, s3, s4⟩ := hn.span h1
      obtain ⟨w0, wB⟩ := sB m (by omega)
      obtain ⟨⟨f0, fS⟩, ⟨g0, gS⟩⟩ := fB m h1
      refine s_seq (s_set 8 nd (x_pspan (x_v 4) hh (x_v 6) h1)) ?_
      refine s_seq (s_set (d := .int (wkLap o (corOf i).many m (wkS o view (corOf i).many m))) 9 nd (x_divS (x_v 5) (x_mulS (x_v 8) (x_v 7) (s2.mono (by decide)) (s4.mono (by decide))) (Int.mul_pos s1 (by omega)) ((s2.mul s4).mono (by decide)))) ?_
      refine s_seq (s_set (d := .int ((view.length : Int) - 1 - m)) 10 nd (x_sub (x_sub (x_lenI hh.b_len (x_v 1)) x_int) (x_v 6))) ?_
      refine s_seq (s_set (d := .int (wF o view (corOf i).many m)) 11 nd (x_is (x_mod (x_add (x_ixI (n := m) (x_v 1) (x_v 6) rfl (by omega)) (x_v 9)) (x_v 7) (by omega)) (by unfold wF wkFi; rw [getD_get (l := view) (by omega)]))) ?_
      refine s_seq (s_set (d := .int (wL o view (corOf i).many m)) 12 nd (x_is (x_mod (x_add (x_ixI (n := view.length - 1 - m) (x_v 1) (x_v 10) (by omega) (by omega)) (x_v 9)) (x_v 7) (by omega)) (by unfold wL wkLa; rw [getD_get (l := view) (by omega)]))) ?_
      unfold wkOut
      by_cases hlt : wL o view (corOf i).many m < wF o view (corOf i).many m - 1
      · rw [if_pos hlt]
        exact r_take (t_is (t_lt (x_v 12) (x_sub (x_v 11) x_int)) (decide_eq_true hlt)) (r_raise U hr (x_v 10) sa (takes_of rfl rfl rfl rfl)) rfl
      · rw [if_neg hlt]
        refine r_skip (t_is (t_lt (x_v 12) (x_sub (x_v 11) x_int)) (decide_eq_false hlt)) ?_
        refine r_take (t_is (t_ne (x_v 11) (x_v 12) rfl) (by rw [decide_eq_false hne]; rfl)) (r_ret (x_tup (a_cons (x_v 6) (a_cons (x_add (x_v 5) (x_mulS (x_max hh.b_max rfl (x_v 11) (x_v 12)) (x_v 8) ?_ (s2.mono (by decide)))) a_nil)) (Nat.le_of_ble_eq_true rfl)) sa) rfl
        rcases Int.le_total (wF o view (corOf i).many m) (wL o view (corOf i).many m) with z | z
        · rw [Int.max_eq_right z]; exact gS
        · rw [Int.max_eq_left z]; exact fS
  refine s_seq (s_for2 6 7 nd (i_enum hh.b_enumerate (x_v 2)) R ⟨.inr rfl, .inr rfl, .inr rfl, .inr rfl, .inr rfl, .inr rfl, .inl rfl, .inl rfl, .inl rfl, .inl rfl, .inl rfl, .inl rfl, .inl rfl, .inl rfl, .inl rfl, .inl rfl, trivial⟩ enumD_two (fun t a b ht => ?_)) ?_
  · obtain ⟨h1, rfl, rfl⟩ := turn t a b ht
    obtain ⟨s1, s2, s3, s4⟩ := hn.span h1
    obtain ⟨w0, wB⟩ := sB t (by omega)
    obtain ⟨⟨f0, fS⟩, ⟨g0, gS⟩⟩ := fB t h1
    refine s_seq (s_set 8 nd (x_pspan (x_v 4) hh (x_v 6) h1)) ?_
    refine s_seq (s_set (d := .int (wkLap o (corOf i).many t (wkS o view (corOf i).many t))) 9 nd (x_divS (x_v 5) (x_mulS (x_v 8) (x_v 7) (s2.mono (by decide)) (s4.mono (by decide))) (Int.mul_pos s1 (by omega)) ((s2.mul s4).mono (by decide)))) ?_
    refine s_seq (s_set (d := .int ((view.length : Int) - 1 - t)) 10 nd (x_sub (x_sub (x_lenI hh.b_len (x_v 1)) x_int) (x_v 6))) ?_
    refine s_seq (s_set (d := .int (wF o view (corOf i).many t)) 11 nd (x_is (x_mod (x_add (x_ixI (n := t) (x_v 1) (x_v 6) rfl (by omega)) (x_v 9)) (x_v 7) (by omega)) (by unfold wF wkFi; rw [getD_get (l := view) (by omega)]))) ?_
    refine s_seq (s_set (d := .int (wL o view (corOf i).many t)) 12 nd (x_is (x_mod (x_add (x_ixI (n := view.length - 1 - t) (x_v 1) (x_v 10) (by omega) (by omega)) (x_v 9)) (x_v 7) (by omega)) (by unfold wL wkLa; rw [getD_get (l := view) (by omega)]))) ?_
    refine r_skip (t_is (t_lt (x_v 12) (x_sub (x_v 11) x_int)) (decide_eq_false (by rw [(heq t h1)]; omega))) ?_
    refine r_skip (t_is (t_ne (x_v 11) (x_v 12) rfl) (by rw [decide_eq_true (heq t h1)]; rfl)) ?_
    refine s_seq (s_augA 5 nd (x_mulS (x_v 11) (x_v 8) fS (s2.mono (by decide)))) ?_
    exact s_nil ⟨.inr rfl, .inr rfl, .inr rfl, .inr rfl, .inr rfl, .inr rfl, .inl rfl, .inl rfl, .inl rfl, .inl rfl, .inl rfl, .inl rfl, .inl rfl, .inl rfl, .inl rfl, .inl rfl, trivial⟩
  rw [hen]
  refine s_seq (s_set (d := .int o.length) 13 nd (x_lenI hh.b_len (x_v 2))) ?_
  rcases hW with ⟨rfl, rfl⟩ | ⟨hi0, es, bs, hS, rfl⟩
  · exact r_take (t_is (t_not (t_truT (ds := dInts []) (x_v 3))) rfl) (r_ret (x_tup (a_cons (x_v 13) (a_cons (x_v 5) a_nil)) (Nat.le_of_ble_eq_true rfl)) sa) rfl
  have hip := List.length_pos_iff.mpr hi0
  refine r_skip (t_is (t_not (t_truT (ds := dInts i) (x_v 3))) (by cases i with | nil => exact absurd rfl hi0 | cons a b => rfl)) ?_
  obtain ⟨w0, wB⟩ := sB o.length (Nat.le_refl _)
  have c0 : 0 ≤ wkS o view (corOf i).many o.length / (corOf i).many := Int.ediv_nonneg w0 (by omega)
  have cB : Bd 1710 (wkS o view (corOf i).many o.length / (corOf i).many) := (wB.le c0 (Int.ediv_le_self _ w0)).mono (by decide)
  refine s_seq (s_set (d := .int (wkS o view (corOf i).many o.length / (corOf i).many)) 14 nd (x_divS (x_v 5) (x_cmany (x_pcore (x_v 4) hh) hh) hcm hcS)) ?_
  have sl : (wkSeen o i view (corOf i).many).length = i.length := by simp [wkSeen]
  refine s_seq (s_lcN (ys := rngD 0 1 ((i.length : Int)).toNat) 10 (fun p => .int (coreVal i p (view.getD (o.length + p) 0) (wkS o view (corOf i).many o.length / (corOf i).many))) nd 15 (i_rng1 hh.b_range (x_lenI hh.b_len (x_v 3)) (by omega) (by omega)) (by rw [rngD_len]; omega) ?_) ?_
  · intro s H C cl fp p d hd
    obtain ⟨hl, rfl⟩ := rngD_get hd
    have hp : p < i.length := by omega
    have ep : (0 : Int) + (p : Int) * 1 = (p : Int) := by omega
    rw [ep]
    exact x_m (fo_TellNest_core_value hh) hr (x_v 4) (a_cons (x_v 10) (a_cons (x_is (x_ixI (n := o.length + p) (x_v 1) (x_add (x_v 13) (x_v 10)) (by omega) (by omega)) (by rw [getD_get (l := view) (by omega)])) (a_cons (x_v 14) a_nil))) ⟨o, i, p, _, _, rfl, rfl, hn.zi, hp, cB⟩
  have eL : (List.range (rngD 0 1 ((i.length : Int)).toNat).length).map (fun p => D.int (coreVal i p (view.getD (o.length + p) 0) (wkS o view (corOf i).many o.length / (corOf i).many))) = dInts (wkSeen o i view (corOf i).many) := by
    rw [rngD_len, Int.toNat_natCast, lc_ints]; rfl
  rw [eL]
  unfold wkEnd
  by_cases hf : es.length = i.length
  · rw [if_pos hf]
    have er : coreR es bs (wkSeen o i view (corOf i).many).length o.length = .ok (.int (bs.getD (i.length - 1) 0)) := by unfold coreR; rw [sl, if_pos hf]
    exact r_ret (x_tup (a_cons (x_v 13) (a_cons (x_add (x_v 5) (x_dn (W := wE E) (CU := cuA Y.K) (x_fX (fo_core_told hh) hr (takes_of rfl rfl rfl rfl) (a_cons (x_pcore (x_v 4) hh) (a_cons (x_v 15) (a_cons (x_v 13) a_nil))) ⟨i, _, es, bs, _, rfl, er.symm, hS⟩))) a_nil)) (Nat.le_of_ble_eq_true rfl)) sa
  · rw [if_neg hf]
    have er : coreR es bs (wkSeen o i view (corOf i).many).length o.length = .ex (o.length + es.length) := by unfold coreR; rw [sl, if_neg hf]
    refine r_retF (r := .ex (o.length + es.length)) (pe_imp (pe_tup (pa_cons (x_v (d := .int o.length) 13) (pa_cons (pe_op op_add (x_v (d := .int (wkS o view (corOf i).many o.length)) 5) (x_fX (W := wE E) (fo_core_told hh) hr (takes_of rfl rfl rfl rfl) (a_cons (x_pcore (x_v 4) hh) (a_cons (x_v 15) (a_cons (x_v 13) a_nil))) ⟨i, _, es, bs, _, rfl, er.symm, hS⟩)) pa_nil))) fun σ H Q ⟨B, M0, b, P, S, kk⟩ => ⟨B, M0, b, P, S, fun x H1 S1 => ⟨B, M0, b, _, S1, fun y H2 S2 => ⟨B, M0, b, _, S2, fun dd H3 S3 hd => kk dd H3 (S3.imp S.up fun _ _ q => q.2.2) hd⟩⟩⟩)
/-- the second of what weak_way gives -/
def sndR : Res → Res
  | .ok (.tup [_, d]) => .ok d
  | .ok d => .ok d
  | .ex k => .ex k
/-! ### weak_stage -/
def F_weak_stage (Y : Wo) (ds : List D) (r : Res) : Prop := ∃ (o i view : List Int) (r' : Res), ds = [nestD o i, .tup (dInts view)] ∧ r = sndR r' ∧ NOk o i ∧ viewOk o i view ∧ WkR Y o i view r'
theorem sc_weak_stage : FnScope ["nest", "view"] ["nest", "view"] (defScope s_weak_stage) := ⟨rfl, rfl, rfl, by decide +kernel, rfl, by decide +kernel, by decide +kernel⟩
theorem fo_weak_stage {Y : Wo} (hh : Y.hd) : Fo Y 12 "weak_stage" ["nest", "view"] (F_weak_stage Y) := by
  have nd : (["nest", "view"] : List Str).Nodup := sc_weak_stage.nd
  refine mkF (k := 11) (N := ["nest", "view"]) hh 46 ds_weak_stage sc_weak_stage (fun _ _ _ _ _ _ us hl => match us, hl with | [_, _], _ => rfl) (by rintro ds r ⟨o, i, view, r', rfl, rfl, hn, hv, hW⟩; rfl) ?_
  rintro cdv A outer s H E ds r hr ⟨o, i, view, r', rfl, rfl, hn, hv, hW⟩
  have fin : ∀ r', WkR Y o i view r' → (∃ a b, r' = .ok (.tup [a, b])) ∨ ∃ k, r' = .ex k := fun r' h => by
    rcases h with ⟨m, _, _, _, e⟩ | ⟨_, ⟨_, e⟩ | ⟨_, es, bs, _, e⟩⟩
    · rw [e]; unfold wkOut; split
      · exact .inr ⟨_, rfl⟩
      · exact .inl ⟨_, _, rfl⟩
    · exact .inl ⟨_, _, e⟩
    · rw [e]; unfold wkEnd; split
      · exact .inl ⟨_, _, rfl⟩
      · exact .inr ⟨_, rfl⟩
  rcases fin r' hW with ⟨a, b, rfl⟩ | ⟨k, rfl⟩
  · exact r_ret (x_ix (d1 := .tup [a, b]) (ds := [a, b]) (x_dn (W := wE E) (CU := cuA Y.K) (x_fX (fo_weak_way hh) hr (takes_of rfl rfl rfl rfl) (a_cons (x_v 0) (a_cons (x_v 1) a_nil)) ⟨o, i, view, rfl, hn, hv, hW⟩)) x_int rfl rfl) sa
  · exact r_retF (r := .ex k) (x_subX (x_fX (fo_weak_way hh) hr (takes_of rfl rfl rfl rfl) (a_cons (x_v 0) (a_cons (x_v 1) a_nil)) ⟨o, i, view, rfl, hn, hv, hW⟩) (x_int (ρ := [.any])))
/-! ### Teller -/
def tellD (K : PySem.W.Frag) (o i : List Int) : D := .ins (He.ga K "Teller") ["nest"] [nestD o i]
/-! ### Teller.__init__ -/
def F_Teller_init (Y : Wo) (ds : List D) (ks : List Str) (fs : List D) : Prop := ∃ o i : List Int, ds = [.tup (dInts o), .tup (dInts i)] ∧ ks = (["nest"] : List Str) ∧ fs = [nestD o i] ∧ SzB o ∧ SzB i ∧ (o ≠ [] ∨ i ≠ [])
theorem sc_Teller_init : FnScope ["self", "outer", "inner"] ["self", "outer", "inner"] (defScope s_Teller_init) := ⟨rfl, rfl, rfl, by decide +kernel, rfl, by decide +kernel, by decide +kernel⟩
theorem fo_Teller_init {Y : Wo} (hh : Y.hd) : FoI Y 5 "Teller" ["self", "outer", "inner"] (F_Teller_init Y) := by
  have nd : (["self", "outer", "inner"] : List Str).Nodup := sc_Teller_init.nd
  refine mkI (k := 4) (N := ["self", "outer", "inner"]) hh 85 108 76 ds_Teller_init sc_Teller_init (fun _ _ _ _ _ _ us hl => match us, hl with | [_, _, _], _ => rfl) (by rintro ds ks fs ⟨o, i, rfl, rfl, rfl, ho, hi, hne⟩; rfl) ?_
  rintro cdv A outer s H E ds ks fs hr ⟨o, i, rfl, rfl, rfl, ho, hi, hne⟩
  refine ⟨[.any, .any], ?_⟩
  have s2 : SzB [2] := ⟨by decide, fun n hn => by rw [List.mem_singleton.mp hn]; decide, fun n hn => by rw [List.mem_singleton.mp hn]; exact (Bd.lit 2).mono (by decide)⟩
  refine r_skip (t_not (t_val (c := true) (x_f (fo_is_nest hh) hr (a_cons (x_tup (ds := [.tup (dInts o), .tup (dInts [2])]) (a_cons (x_v 1) (a_cons (x_tup (ds := dInts [2]) (a_cons x_int a_nil) (Nat.le_of_ble_eq_true rfl)) a_nil)) (Nat.le_of_ble_eq_true rfl)) a_nil) ⟨o, [2], rfl, rfl, ho, s2, .inr (by decide)⟩))) ?_
  refine r_skip (t_not (t_val (c := true) (x_f (fo_is_nest hh) hr (a_cons (x_tup (ds := [.tup (dInts o), .tup (dInts i)]) (a_cons (x_v 1) (a_cons (x_v 2) a_nil)) (Nat.le_of_ble_eq_true rfl)) a_nil) ⟨o, i, rfl, rfl, ho, hi, hne⟩))) ?_
  exact s_seq (s_fldN (d := nestD o i) 0 (x_tup (a_cons (x_v 1) (a_cons (x_v 2) a_nil)) (Nat.le_of_ble_eq_true rfl)) rfl (.inr rfl) hh.c_tell (hh.noat 107) (by decide)) (s_nil ⟨.inr rfl, .inl rfl, .inl rfl, trivial⟩)
theorem x_tnest {X : Cx} {ρ : List Sl} {e : Expr} {o i : List Int} {pos : Pos} (h : PE X e (tD ρ (tellD X.K o i))) (hh : Hd X.K X.mg) (hb : attributeBase e "nest" X.env (eval e X.env) = eval e X.env := by rfl) : PE X (.Attribute e "nest" pos) (tD ρ (nestD o i)) := x_fld (j := 0) h hh.c_tell (hh.noat 107) rfl rfl hb
/-! ### Teller.told -/
def F_Teller_told (Y : Wo) (ds : List D) (r : Res) : Prop := ∃ (o i view : List Int), ds = [tellD Y.K o i, .tup (dInts view)] ∧ F_told_stage Y [nestD o i, .tup (dInts view)] r
theorem sc_Teller_told : FnScope ["self", "view"] ["self", "view"] (defScope s_Teller_told) := ⟨rfl, rfl, rfl, by decide +kernel, rfl, by decide +kernel, by decide +kernel⟩
theorem fo_Teller_told {Y : Wo} (hh : Y.hd) : FoM Y 13 "Teller" "told" ["self", "view"] (F_Teller_told Y) := by
  have nd : (["self", "view"] : List Str).Nodup := sc_Teller_told.nd
  refine mkM (k := 12) (N := ["self", "view"]) hh 86 118 106 ds_Teller_told sc_Teller_told (fun _ _ _ _ _ _ us hl => match us, hl with | [_, _], _ => rfl) (by rintro ds r ⟨o, i, view, rfl, h⟩; rfl) ?_
  rintro cdv A outer s H E ds r hr ⟨o, i, view, rfl, h⟩
  exact r_retF (x_fX (fo_told_stage hh) hr (takes_of rfl rfl rfl rfl) (a_cons (x_tnest (x_v 0) hh) (a_cons (x_v 1) a_nil)) h)
/-! ### Teller.span -/
def F_Teller_span (Y : Wo) (ds : List D) (r : Res) : Prop := ∃ (o i view : List Int), ds = [tellD Y.K o i, .tup (dInts view)] ∧ F_right_span Y [nestD o i, .tup (dInts view)] r
theorem sc_Teller_span : FnScope ["self", "view"] ["self", "view"] (defScope s_Teller_span) := ⟨rfl, rfl, rfl, by decide +kernel, rfl, by decide +kernel, by decide +kernel⟩
theorem fo_Teller_span {Y : Wo} (hh : Y.hd) : FoM Y 12 "Teller" "span" ["self", "view"] (F_Teller_span Y) := by
  have nd : (["self", "view"] : List Str).Nodup := sc_Teller_span.nd
  refine mkM (k := 11) (N := ["self", "view"]) hh 87 119 106 ds_Teller_span sc_Teller_span (fun _ _ _ _ _ _ us hl => match us, hl with | [_, _], _ => rfl) (by rintro ds r ⟨o, i, view, rfl, h⟩; rfl) ?_
  rintro cdv A outer s H E ds r hr ⟨o, i, view, rfl, h⟩
  exact r_retF (x_fX (fo_right_span hh) hr (takes_of rfl rfl rfl rfl) (a_cons (x_tnest (x_v 0) hh) (a_cons (x_v 1) a_nil)) h)
/-! ### Teller.seen -/
def F_Teller_seen (Y : Wo) (ds : List D) (r : Res) : Prop := ∃ (o i view : List Int), ds = [tellD Y.K o i, .tup (dInts view)] ∧ F_is_seen Y [nestD o i, .tup (dInts view)] r
theorem sc_Teller_seen : FnScope ["self", "view"] ["self", "view"] (defScope s_Teller_seen) := ⟨rfl, rfl, rfl, by decide +kernel, rfl, by decide +kernel, by decide +kernel⟩
theorem fo_Teller_seen {Y : Wo} (hh : Y.hd) : FoM Y 13 "Teller" "seen" ["self", "view"] (F_Teller_seen Y) := by
  have nd : (["self", "view"] : List Str).Nodup := sc_Teller_seen.nd
  refine mkM (k := 12) (N := ["self", "view"]) hh 88 120 106 ds_Teller_seen sc_Teller_seen (fun _ _ _ _ _ _ us hl => match us, hl with | [_, _], _ => rfl) (by rintro ds r ⟨o, i, view, rfl, h⟩; rfl) ?_
  rintro cdv A outer s H E ds r hr ⟨o, i, view, rfl, h⟩
  exact r_retF (x_fX (fo_is_seen hh) hr (takes_of rfl rfl rfl rfl) (a_cons (x_tnest (x_v 0) hh) (a_cons (x_v 1) a_nil)) h)
/-! ### Teller.weak -/
def F_Teller_weak (Y : Wo) (ds : List D) (r : Res) : Prop := ∃ (o i view : List Int), ds = [tellD Y.K o i, .tup (dInts view)] ∧ F_weak_stage Y [nestD o i, .tup (dInts view)] r
theorem sc_Teller_weak : FnScope ["self", "view"] ["self", "view"] (defScope s_Teller_weak) := ⟨rfl, rfl, rfl, by decide +kernel, rfl, by decide +kernel, by decide +kernel⟩
theorem fo_Teller_weak {Y : Wo} (hh : Y.hd) : FoM Y 13 "Teller" "weak" ["self", "view"] (F_Teller_weak Y) := by
  have nd : (["self", "view"] : List Str).Nodup := sc_Teller_weak.nd
  refine mkM (k := 12) (N := ["self", "view"]) hh 89 121 106 ds_Teller_weak sc_Teller_weak (fun _ _ _ _ _ _ us hl => match us, hl with | [_, _], _ => rfl) (by rintro ds r ⟨o, i, view, rfl, h⟩; rfl) ?_
  rintro cdv A outer s H E ds r hr ⟨o, i, view, rfl, h⟩
  exact r_retF (x_fX (fo_weak_stage hh) hr (takes_of rfl rfl rfl rfl) (a_cons (x_tnest (x_v 0) hh) (a_cons (x_v 1) a_nil)) h)
end Sd

namespace Sd
open PySem PySem.Spec L2
open PyProof.Rows (envOfC)

theorem gOfI_le (i : List Int) : gOfI i ≤ i.length := by
  unfold gOfI
  split
  · exact Nat.le_refl _
  · have := gapI_lt (ss := i) (by omega); omega
theorem halfI_many {i : List Int} (hi : SzB i) : (halfI i).L + (halfI i).R - 1 = (corOf i).many := by
  rw [halfI_eq hi]
  unfold gOfI
  match i, hi with
  | [], _ => rfl
  | [s], _ => show s * 1 + 1 - 1 = s; omega
  | a :: b :: t, hi =>
    rw [if_neg (by simp only [List.length_cons]; omega)]
    show pr _ + pr _ - 1 = (mshOf (a :: b :: t)).L + (mshOf (a :: b :: t)).R - 1
    have : (mshOf (a :: b :: t)).R = pr ((a :: b :: t).drop (gapI (a :: b :: t) + 1)) := pr_rev _
    rw [this]; rfl
theorem halfI_ok {i : List Int} (hi : SzB i) : HfOk (halfI i) := by
  rw [halfI_eq hi]
  have h1 := hi.take (gOfI i)
  have h2 := hi.drop (gOfI i)
  have p1 := h1.pos
  have p2 := h2.pos
  have ab : (2 ≤ aOfI i ∧ Bd 41 (aOfI i)) ∧ 2 ≤ bOfI i ∧ Bd 41 (bOfI i) := by
    unfold aOfI bOfI
    split
    · exact ⟨⟨by decide, (Bd.lit 2).mono (by decide)⟩, by decide, (Bd.lit 2).mono (by decide)⟩
    · have m := mshOf_ok (ss := i) (by omega) hi
      exact ⟨⟨m.a2, m.aS⟩, m.b2, m.bS⟩
  exact ⟨by show 1 ≤ pr _; omega, by show 1 ≤ pr _; omega, h1.bd.mono (by decide), h2.bd.mono (by decide), ab.1.1, ab.1.2, ab.2.1, ab.2.2⟩
/-! ### the law's world -/
def ourR (o : List Int) (cm : Int) (j : Nat) : List Int := [2, spanI o cm j, o.getD j 0, (o.getD j 0 - 1) * pr (o.take j)]
def lefU (i : List Int) (j : Nat) : Int := pr ((i.take (gOfI i)).drop (j + 1))
def lefR (i : List Int) (j : Nat) : List Int := [0, lefU i j, i.getD j 0, waveI ((pr (i.take (gOfI i)) - 1) / lefU i j) (i.getD j 0)]
def rigU (i : List Int) (j : Nat) : Int := pr ((i.drop (gOfI i)).take j)
def rigR (i : List Int) (j : Nat) : List Int := [1, rigU i j, i.getD (gOfI i + j) 0, waveI ((pr (i.drop (gOfI i)) - 1) / rigU i j) (i.getD (gOfI i + j) 0)]
def rowsL (n : Nat) (f : Nat → List Int) : List D := (List.range n).map fun j => .tup (dInts (f j))
theorem rowsL_s (n : Nat) (f : Nat → List Int) : rowsL (n + 1) f = rowsL n f ++ [.tup (dInts (f n))] := by unfold rowsL; rw [List.range_succ, List.map_append]; rfl
def worldA (o i : List Int) : List D := [(halfI i).D, .int (corOf i).many, .int ((corOf i).many * pr o)]
def worldL (o i : List Int) : List D := worldA o i ++ rowsL o.length (ourR o (corOf i).many) ++ rowsL (gOfI i) (lefR i) ++ rowsL (i.length - gOfI i) (rigR i)
def worldD (o i : List Int) : D := .lst (worldL o i)
theorem rowsL_len (n : Nat) (f : Nat → List Int) : (rowsL n f).length = n := by simp [rowsL]
/-! ### _law_world -/
def F_law_world (ds : List D) (r : Res) : Prop := ∃ o i : List Int, ds = [nestD o i] ∧ r = .ok (worldD o i) ∧ SzB o ∧ SzB i ∧ Bd 1700 (corOf i).many
theorem sc_law_world : FnScope ["_law_nest_here", "_law_half", "_law_core_here", "_law_unit", "_law_world_here", "_law_ahead", "_law_size"] ["_law_nest_here"] (defScope s_law_world) := ⟨rfl, rfl, rfl, by decide +kernel, rfl, by decide +kernel, by decide +kernel⟩
theorem fo_law_world {Y : Wo} (hh : Y.hd) : Fo Y 3 "_law_world" ["_law_nest_here"] F_law_world := by
  have nd : (["_law_nest_here", "_law_half", "_law_core_here", "_law_unit", "_law_world_here", "_law_ahead", "_law_size"] : List Str).Nodup := sc_law_world.nd
  refine mkF (k := 2) (N := ["_law_nest_here", "_law_half", "_law_core_here", "_law_unit", "_law_world_here", "_law_ahead", "_law_size"]) hh 59 ds_law_world sc_law_world (fun _ _ _ _ _ _ us hl => match us, hl with | [_], _ => rfl) (by rintro ds r ⟨o, i, rfl, rfl, ho, hi, hM⟩; rfl) ?_
  rintro cdv A outer s H E ds r hr ⟨o, i, rfl, rfl, ho, hi, hM⟩
  have l1 := ho.len
  have l2 := hi.len
  have hk := halfI_ok hi
  have hc := corOf_ok hi
  have hp := Cor.many_pos hc
  have hg := gOfI_le i
  have eh := halfI_eq hi
  have em := halfI_many hi
  have eL : (halfI i).L = pr (i.take (gOfI i)) := by rw [eh]
  have eR : (halfI i).R = pr (i.drop (gOfI i)) := by rw [eh]
  have eg : (halfI i).g = (gOfI i : Int) := by rw [eh]
  refine s_seq (s_set (d := (halfI i).D) 1 nd (x_f (fo_law_halves hh) hr (a_cons (x_ix (x_v 0) x_int (nestD_it o i) rfl) a_nil) ⟨i, rfl, rfl, hi⟩)) ?_
  refine s_seq (s_set (d := .int (corOf i).many) 2 nd (x_is (x_sub (x_add (x_hf 1 (x_v 1) x_int rfl rfl) (x_hf 2 (x_v 1) x_int rfl rfl)) x_int) (by rw [em]))) ?_
  refine s_seq (s_set (d := .int ((corOf i).many * pr o)) 3 nd (x_mulS (x_v 2) (x_f (fo_law_product hh) hr (a_cons (x_ix (x_v 0) x_int (nestD_it o i) rfl) a_nil) ⟨o, rfl, rfl, ho⟩) (hM.mono (by decide)) ho.sm)) ?_
  refine s_seq (s_setN 4 nd (n_lst (ds := worldA o i) (a_cons (x_v 1) (a_cons (x_v 2) (a_cons (x_v 3) a_nil))) (Nat.le_of_ble_eq_true rfl))) ?_
  refine s_seq (s_set 5 nd x_int) ?_
  refine s_seq (s_forN (ys := dInts o) 6 nd (i_tup (x_ix (x_v 0) x_int (nestD_it o i) rfl)) (fun j => [.val (nestD o i), .val (halfI i).D, .val (.int (corOf i).many), .val (.int ((corOf i).many * pr (o.drop j))), .own (.lst (worldA o i ++ rowsL j (ourR o (corOf i).many))), .val (.int (pr (o.take j))), .any]) ⟨.inr rfl, .inr rfl, .inr rfl, .inr rfl, .inr (by show Sl.own (.lst (worldA o i ++ [])) = _; rw [List.append_nil]), .inr rfl, .inl rfl, trivial⟩ (fun j d hj => ?_)) ?_
  · obtain ⟨h, rfl⟩ := dInts_get hj
    have p := ho.get h
    have eu : (corOf i).many * pr (o.drop j) / o[j] = spanI o (corOf i).many j := by
      unfold spanI
      rw [pr_drop h, ← Int.mul_assoc, Int.mul_comm (corOf i).many, Int.mul_assoc, Int.mul_ediv_cancel_left _ (by omega)]
    refine s_seq (s_set (d := .int (spanI o (corOf i).many j)) 3 nd (x_is (x_divS (x_v 3) (x_v 6) (by omega) (ho.getSm h)) (by rw [eu]))) ?_
    refine s_seq (s_app (d := .tup (dInts (ourR o (corOf i).many j))) 4 (x_is (x_tup (ds := [.int 2, .int (spanI o (corOf i).many j), .int o[j], .int ((o[j] - 1) * pr (o.take j))]) (a_cons x_int (a_cons (x_v 3) (a_cons (x_v 6) (a_cons (x_mulS (x_sub (x_v 6) x_int) (x_v 5) ((p.2.sub (Bd.lit 1)).mono (by decide)) (ho.take j).sm) a_nil)))) (Nat.le_of_ble_eq_true rfl)) (by unfold ourR; rw [getD_get h]; rfl)) rfl (.inl rfl) (by rw [List.length_append, rowsL_len]; show 3 + j < 100000; omega)) ?_
    refine s_seq (s_set (d := .int (pr (o.take (j + 1)))) 5 nd (x_is (x_mulS (x_v 5) (x_v 6) (ho.take j).sm (ho.getSm h)) (by rw [pr_take h]))) ?_
    exact s_nil ⟨.inr rfl, .inr rfl, .inr rfl, .inr rfl, .inr (by rw [rowsL_s, ← List.append_assoc]; rfl), .inr rfl, .inl rfl, trivial⟩
  rw [dInts_len]
  refine s_seq (s_set (d := .int (pr (i.take (gOfI i)))) 3 nd (x_is (x_hf 1 (x_v 1) x_int rfl rfl) (by rw [eL]))) ?_
  refine s_seq (s_forN (ys := dInts (i.take (gOfI i))) 6 nd (i_tup (x_is (x_slT (x_ix (x_v 0) x_int (nestD_it o i) rfl) o_no (o_at (x_hf 0 (x_v 1) x_int rfl rfl))) (by rw [cutD_to i eg hg]))) (fun j => [.val (nestD o i), .val (halfI i).D, .val (.int (corOf i).many), .val (.int (pr ((i.take (gOfI i)).drop j))), .own (.lst (worldA o i ++ rowsL o.length (ourR o (corOf i).many) ++ rowsL j (lefR i))), .any, .any]) ⟨.inr rfl, .inr rfl, .inr rfl, .inr rfl, .inr (by show Sl.own (.lst (_ ++ [])) = _; rw [List.append_nil]), .inl rfl, .inl rfl, trivial⟩ (fun j d hj => ?_)) ?_
  · obtain ⟨h, rfl⟩ := dInts_get hj
    have hg1 : j < gOfI i := by have := h; rw [List.length_take] at this; omega
    have ht := hi.take (gOfI i)
    have p := ht.get h
    have es : (i.take (gOfI i))[j] = i.getD j 0 := by rw [List.getElem_take, getD_get (by omega)]
    have hu := ht.drop (j + 1)
    have eu : pr ((i.take (gOfI i)).drop j) / (i.take (gOfI i))[j] = lefU i j := by
      unfold lefU
      rw [pr_drop h, Int.mul_ediv_cancel_left _ (by omega)]
    refine s_seq (s_set (d := .int (lefU i j)) 3 nd (x_is (x_divS (x_v 3) (x_v 6) (by omega) (ht.getSm h)) (by rw [eu]))) ?_
    refine s_seq (s_app (d := .tup (dInts (lefR i j))) 4 (x_is (x_tup (ds := [.int 0, .int (lefU i j), .int (i.take (gOfI i))[j], .int (waveI ((pr (i.take (gOfI i)) - 1) / lefU i j) (i.take (gOfI i))[j])]) (a_cons x_int (a_cons (x_v 3) (a_cons (x_v 6) (a_cons (x_f (fo_law_wave hh) hr (a_cons (x_divS (x_sub (x_is (x_hf 1 (x_v 1) x_int rfl rfl) (by rw [eL])) x_int) (x_v 3) hu.pos hu.sm) (a_cons (x_v 6) a_nil)) ⟨_, _, rfl, rfl, by omega, p.2.mono (by decide)⟩) a_nil)))) (Nat.le_of_ble_eq_true rfl)) (by unfold lefR; rw [es]; rfl)) rfl (.inl rfl) (by rw [List.length_append, List.length_append, rowsL_len, rowsL_len]; show 3 + o.length + j < 100000; omega)) ?_
    exact s_nil ⟨.inr rfl, .inr rfl, .inr rfl, .inr rfl, .inr (by rw [rowsL_s, ← List.append_assoc]; rfl), .inl rfl, .inl rfl, trivial⟩
  have e1 : (dInts (i.take (gOfI i))).length = gOfI i := by rw [dInts_len, List.length_take]; omega
  rw [e1]
  refine s_seq (s_set 3 nd x_int) ?_
  refine s_seq (s_forN (ys := dInts (i.drop (gOfI i))) 6 nd (i_tup (x_is (x_slT (x_ix (x_v 0) x_int (nestD_it o i) rfl) (o_at (x_hf 0 (x_v 1) x_int rfl rfl)) o_no) (by rw [cutD_from i eg hg]))) (fun j => [.val (nestD o i), .val (halfI i).D, .val (.int (corOf i).many), .val (.int (rigU i j)), .own (.lst (worldA o i ++ rowsL o.length (ourR o (corOf i).many) ++ rowsL (gOfI i) (lefR i) ++ rowsL j (rigR i))), .any, .any]) ⟨.inr rfl, .inr rfl, .inr rfl, .inr rfl, .inr (by show Sl.own (.lst (_ ++ [])) = _; rw [List.append_nil]), .inl rfl, .inl rfl, trivial⟩ (fun j d hj => ?_)) ?_
  · obtain ⟨h, rfl⟩ := dInts_get hj
    have hl : j < i.length - gOfI i := by have := h; rw [List.length_drop] at this; omega
    have ht := hi.drop (gOfI i)
    have p := ht.get h
    have es : (i.drop (gOfI i))[j] = i.getD (gOfI i + j) 0 := by rw [List.getElem_drop, getD_get (by omega)]
    have hu := ht.take j
    refine s_seq (s_app (d := .tup (dInts (rigR i j))) 4 (x_is (x_tup (ds := [.int 1, .int (rigU i j), .int (i.drop (gOfI i))[j], .int (waveI ((pr (i.drop (gOfI i)) - 1) / rigU i j) (i.drop (gOfI i))[j])]) (a_cons x_int (a_cons (x_v 3) (a_cons (x_v 6) (a_cons (x_f (fo_law_wave hh) hr (a_cons (x_divS (x_sub (x_is (x_hf 2 (x_v 1) x_int rfl rfl) (by rw [eR])) x_int) (x_v 3) hu.pos hu.sm) (a_cons (x_v 6) a_nil)) ⟨_, _, rfl, rfl, by omega, p.2.mono (by decide)⟩) a_nil)))) (Nat.le_of_ble_eq_true rfl)) (by unfold rigR; rw [es]; rfl)) rfl (.inl rfl) (by rw [List.length_append, List.length_append, List.length_append, rowsL_len, rowsL_len, rowsL_len]; show 3 + o.length + gOfI i + j < 100000; omega)) ?_
    refine s_seq (s_set (d := .int (rigU i (j + 1))) 3 nd (x_is (x_mulS (x_v 3) (x_v 6) hu.sm (ht.getSm h)) (by unfold rigU; rw [pr_take h]))) ?_
    exact s_nil ⟨.inr rfl, .inr rfl, .inr rfl, .inr rfl, .inr (by rw [rowsL_s, ← List.append_assoc]; rfl), .inl rfl, .inl rfl, trivial⟩
  · have e2 : (dInts (i.drop (gOfI i))).length = i.length - gOfI i := by rw [dInts_len, List.length_drop]
    rw [e2]
    refine s_freeze 4 (ds := worldL o i) ?_
    exact r_ret (x_v 4) sa
end Sd

namespace Sd
open PySem PySem.Spec L2
open PyProof.Rows (envOfC)

theorem ediv_abs {i j : Int} (h : 0 < j) : (i / j).natAbs ≤ i.natAbs := by
  by_cases h0 : 0 ≤ i
  · have a := Int.ediv_nonneg h0 (Int.le_of_lt h)
    have b := Int.ediv_le_self j h0
    omega
  · have a : i / j < 0 := Int.ediv_neg_of_neg_of_pos (by omega) h
    have b : i ≤ i / j := by
      rw [Int.le_ediv_iff_mul_le h]
      have := Int.mul_le_mul_of_nonneg_left (show 1 ≤ j by omega) (show 0 ≤ -i by omega)
      rw [Int.neg_mul, Int.neg_mul] at this
      omega
    omega
theorem Bd.ediv {n : Nat} {i j : Int} (h : Bd n i) (h0 : 0 < j) : Bd n (i / j) := by
  have := ediv_abs (i := i) h0
  unfold Bd at *
  omega
theorem Bd.emod {n : Nat} {i j : Int} (h : Bd n j) (h0 : 0 < j) : Bd n (i % j) := by
  have a := Int.emod_nonneg i (show j ≠ 0 by omega)
  have b := Int.emod_lt_of_pos i h0
  unfold Bd at *
  omega
/-! ### a row of the law's world -/
structure Rw where
  sd : Int
  u : Int
  s : Int
  e : Int
def Rw.ns (w : Rw) : List Int := [w.sd, w.u, w.s, w.e]
def Rw.D (w : Rw) : D := .tup (dInts w.ns)
structure RwOk (w : Rw) : Prop where
  sd : w.sd = 0 ∨ w.sd = 1 ∨ w.sd = 2
  u0 : 0 < w.u
  uB : Bd 1700 w.u
  s2 : 2 ≤ w.s
  sB : Bd 41 w.s
  eB : Bd 1700 w.e
structure WOk (o i : List Int) : Prop where
  ho : SzB o
  hi : SzB i
  hM : Bd 1700 (corOf i).many
  hT : Bd 1700 ((corOf i).many * pr o)
def rowW (o i : List Int) (k : Nat) : Rw :=
  if k < o.length then ⟨2, spanI o (corOf i).many k, o.getD k 0, (o.getD k 0 - 1) * pr (o.take k)⟩
  else if k - o.length < gOfI i then ⟨0, lefU i (k - o.length), i.getD (k - o.length) 0, waveI ((pr (i.take (gOfI i)) - 1) / lefU i (k - o.length)) (i.getD (k - o.length) 0)⟩
  else ⟨1, rigU i (k - o.length - gOfI i), i.getD (k - o.length) 0, waveI ((pr (i.drop (gOfI i)) - 1) / rigU i (k - o.length - gOfI i)) (i.getD (k - o.length) 0)⟩
theorem rowsL_get {n : Nat} {f : Nat → List Int} {j : Nat} (h : j < n) : (rowsL n f)[j]? = some (.tup (dInts (f j))) := by
  unfold rowsL; rw [List.getElem?_map, List.getElem?_range h]; rfl
theorem world_row {o i : List Int} {k : Nat} (h : k < o.length + i.length) : (worldL o i)[3 + k]? = some (rowW o i k).D := by
  have hg := gOfI_le i
  have l3 : (worldA o i).length = 3 := rfl
  unfold worldL rowW
  by_cases h1 : k < o.length
  · rw [if_pos h1, List.getElem?_append_left (by simp [rowsL_len, l3]; omega), List.getElem?_append_left (by simp [rowsL_len, l3]; omega), List.getElem?_append_right (by rw [l3]; omega), l3, Nat.add_sub_cancel_left, rowsL_get h1]; rfl
  · rw [if_neg h1]
    by_cases h2 : k - o.length < gOfI i
    · rw [if_pos h2, List.getElem?_append_left (by simp [rowsL_len, l3]; omega), List.getElem?_append_right (by simp [rowsL_len, l3]; omega), List.length_append, rowsL_len, l3, show 3 + k - (3 + o.length) = k - o.length by omega, rowsL_get h2]; rfl
    · rw [if_neg h2, List.getElem?_append_right (by simp [rowsL_len, l3]; omega), List.length_append, List.length_append, rowsL_len, rowsL_len, l3, show 3 + k - (3 + o.length + gOfI i) = k - o.length - gOfI i by omega, rowsL_get (by omega)]
      unfold rigR Rw.D Rw.ns
      dsimp only
      rw [show gOfI i + (k - o.length - gOfI i) = k - o.length by omega]
theorem world_len {o i : List Int} : (worldL o i).length = 3 + (o.length + i.length) := by
  have hg := gOfI_le i
  have l3 : (worldA o i).length = 3 := rfl
  unfold worldL
  simp [rowsL_len, l3]; omega
theorem waveI_bd {x s : Int} (h : 0 < s) : 0 ≤ waveI x s ∧ waveI x s < s := by
  unfold waveI
  have a := Int.emod_nonneg x (show 2 * s ≠ 0 by omega)
  have b := Int.emod_lt_of_pos x (show 0 < 2 * s by omega)
  split <;> omega
theorem spanI_pos {o : List Int} {cm : Int} (ho : SzB o) (h : 0 < cm) (k : Nat) : 0 < spanI o cm k := Int.mul_pos h (ho.drop (k + 1)).pos
theorem spanI_le {o : List Int} {cm : Int} (ho : SzB o) (h : 0 < cm) (k : Nat) : spanI o cm k ≤ cm * pr o := by
  unfold spanI
  have e : pr o = pr (o.take (k + 1)) * pr (o.drop (k + 1)) := by rw [← pr_app, List.take_append_drop]
  have p := (ho.take (k + 1)).pos
  have q := (ho.drop (k + 1)).pos
  refine Int.mul_le_mul_of_nonneg_left ?_ (by omega)
  rw [e]
  have := Int.mul_le_mul_of_nonneg_right (show 1 ≤ pr (o.take (k + 1)) by omega) (show 0 ≤ pr (o.drop (k + 1)) by omega)
  omega
theorem row_ok {o i : List Int} {k : Nat} (W : WOk o i) (h : k < o.length + i.length) : RwOk (rowW o i k) := by
  have hc := Cor.many_pos (corOf_ok W.hi)
  have hg := gOfI_le i
  unfold rowW
  by_cases h1 : k < o.length
  · rw [if_pos h1]
    have p := W.ho.get h1
    have ek := getD_get h1
    refine ⟨.inr (.inr rfl), spanI_pos W.ho hc k, W.hT.le (Int.le_of_lt (spanI_pos W.ho hc k)) (spanI_le W.ho hc k), ?_, ?_, ?_⟩
    · dsimp only; rw [ek]; exact p.1
    · dsimp only; rw [ek]; exact p.2
    · dsimp only; rw [ek]
      exact ((p.2.sub (Bd.lit 1)).mul (W.ho.take k).bd).mono (by decide)
  · rw [if_neg h1]
    have hj : k - o.length < i.length := by omega
    have p := W.hi.get hj
    have ek := getD_get hj
    have wb : ∀ x, Bd 1700 (waveI x (i.getD (k - o.length) 0)) := fun x => by
      rw [ek]
      have := waveI_bd (x := x) (s := i[k - o.length]) (by omega)
      exact (p.2.le this.1 (by omega)).mono (by decide)
    by_cases h2 : k - o.length < gOfI i
    · rw [if_pos h2]
      have q := (W.hi.take (gOfI i)).drop (k - o.length + 1)
      exact ⟨.inl rfl, q.pos, q.bd.mono (by decide), by dsimp only; rw [ek]; exact p.1, by dsimp only; rw [ek]; exact p.2, wb _⟩
    · rw [if_neg h2]
      have q := (W.hi.drop (gOfI i)).take (k - o.length - gOfI i)
      exact ⟨.inr (.inl rfl), q.pos, q.bd.mono (by decide), by dsimp only; rw [ek]; exact p.1, by dsimp only; rw [ek]; exact p.2, wb _⟩
section
variable {X : Cx} {ρ ρ1 : List Sl} {e e2 : Expr} {pos : Pos} {o i : List Int} {x v : Int} {w : Rw}
/-- world[3 + k] -/
theorem x_row (k : Nat) (h1 : PE X e (tG ρ ρ1 (worldD o i))) (h2 : PE X e2 (tD ρ1 (.int x))) (hx : x = 3 + (k : Int)) (hk : k < o.length + i.length) (hs : PlainIx e2 := by exact fun _ _ => rfl) : PE X (.Subscript e e2 pos) (tG ρ ρ1 (rowW o i k).D) :=
  x_ix h1 h2 rfl (by rw [hx, show (3 : Int) + (k : Int) = ((3 + k : Nat) : Int) by omega]; exact atI_nat (world_row hk)) hs
theorem x_rw (n : Nat) (h1 : PE X e (tG ρ ρ1 w.D)) (h2 : PE X e2 (tD ρ1 (.int x))) (hx : x = (n : Int)) (hv : w.ns[n]? = some v) (hs : PlainIx e2 := by exact fun _ _ => rfl) : PE X (.Subscript e e2 pos) (tG ρ ρ1 (.int v)) := by
  have hl : n < w.ns.length := (List.getElem?_eq_some_iff.mp hv).1
  have e : w.ns[n] = v := (List.getElem?_eq_some_iff.mp hv).2
  rw [← e]
  exact x_ixI h1 h2 hx hl hs
/-- world[0], world[1], world[2] -/
theorem x_w0 (h1 : PE X e (tG ρ ρ1 (worldD o i))) (h2 : PE X e2 (tD ρ1 (.int 0))) (hs : PlainIx e2 := by exact fun _ _ => rfl) : PE X (.Subscript e e2 pos) (tG ρ ρ1 (halfI i).D) := x_ix h1 h2 rfl (by
  show atI (worldL o i) ((0 : Nat) : Int) = _
  exact atI_nat rfl) hs
theorem x_w1 (h1 : PE X e (tG ρ ρ1 (worldD o i))) (h2 : PE X e2 (tD ρ1 (.int 1))) (hs : PlainIx e2 := by exact fun _ _ => rfl) : PE X (.Subscript e e2 pos) (tG ρ ρ1 (.int (corOf i).many)) := x_ix h1 h2 rfl (by
  show atI (worldL o i) ((1 : Nat) : Int) = _
  exact atI_nat rfl) hs
theorem x_w2 (h1 : PE X e (tG ρ ρ1 (worldD o i))) (h2 : PE X e2 (tD ρ1 (.int 2))) (hs : PlainIx e2 := by exact fun _ _ => rfl) : PE X (.Subscript e e2 pos) (tG ρ ρ1 (.int ((corOf i).many * pr o))) := x_ix h1 h2 rfl (by
  show atI (worldL o i) ((2 : Nat) : Int) = _
  exact atI_nat rfl) hs
end
/-! ### what a row shows -/
def cntW (h : Hf) (w : Rw) (st : Int) : Int := if w.sd = 0 then st - rightsI h st 1 else rightsI h st 1
def showsW (h : Hf) (cm : Int) (w : Rw) (st : Int) : Int := if w.sd = 2 then (st / w.u - st / (w.u * w.s)) % w.s else (waveI (cntW h w (st - st / cm * cm) / w.u) w.s + st / cm * w.e) % w.s
def showsI (o i : List Int) (k : Nat) (st : Int) : Int := showsW (halfI i) (corOf i).many (rowW o i k) st
/-! ### _law_shows -/
def F_law_shows (ds : List D) (r : Res) : Prop := ∃ (o i : List Int) (k : Nat) (st : Int), ds = [worldD o i, .int k, .int st] ∧ r = .ok (.int (showsI o i k st)) ∧ WOk o i ∧ k < o.length + i.length ∧ 0 ≤ st ∧ Bd 1700 st
theorem sc_law_shows : FnScope ["_law_world_here", "_law_dial", "_law_stage", "_law_side", "_law_unit", "_law_size", "_law_last", "_law_core_here", "_law_right", "_law_count"] ["_law_world_here", "_law_dial", "_law_stage"] (defScope s_law_shows) := ⟨rfl, rfl, rfl, by decide +kernel, rfl, by decide +kernel, by decide +kernel⟩
theorem fo_law_shows {Y : Wo} (hh : Y.hd) : Fo Y 3 "_law_shows" ["_law_world_here", "_law_dial", "_law_stage"] F_law_shows := by
  have nd : (["_law_world_here", "_law_dial", "_law_stage", "_law_side", "_law_unit", "_law_size", "_law_last", "_law_core_here", "_law_right", "_law_count"] : List Str).Nodup := sc_law_shows.nd
  refine mkF (k := 2) (N := ["_law_world_here", "_law_dial", "_law_stage", "_law_side", "_law_unit", "_law_size", "_law_last", "_law_core_here", "_law_right", "_law_count"]) hh 60 ds_law_shows sc_law_shows (fun _ _ _ _ _ _ us hl => match us, hl with | [_, _, _], _ => rfl) (by rintro ds r ⟨o, i, k, st, rfl, rfl, W, hk, h0, hB⟩; rfl) ?_
  rintro cdv A outer s H E ds r hr ⟨o, i, k, st, rfl, rfl, W, hk, h0, hB⟩
  have hw := row_ok W hk
  have s2 := hw.s2
  have sP : 0 < (rowW o i k).s := by omega
  have hc := Cor.many_pos (corOf_ok W.hi)
  have hq := halfI_ok W.hi
  have mP := Int.mul_pos hw.u0 sP
  have mB : Bd 1742 ((rowW o i k).u * (rowW o i k).s) := (hw.uB.mul hw.sB).mono (by decide)
  refine s_seq (s_asg4 3 4 5 6 nd (a := .int (rowW o i k).sd) (b := .int (rowW o i k).u) (c := .int (rowW o i k).s) (d := .int (rowW o i k).e) (x_row k (x_v 0) (x_add x_int (x_v 1)) rfl hk)) ?_
  refine r_when (t_eq (x_v 3) x_int rfl) (fun hd => ⟨r_ret (x_is (x_mod (x_sub (x_divS (x_v 2) (x_v 4) hw.u0 (hw.uB.mono (by decide))) (x_divS (x_v 2) (x_mulS (x_v 4) (x_v 5) (hw.uB.mono (by decide)) (hw.sB.mono (by decide))) mP (mB.mono (by decide)))) (x_v 5) sP) (by unfold showsI showsW; rw [ifT hd])) sa, rfl⟩) (fun hd => ?_)
  have qB : Bd 1700 (st / (corOf i).many) := hB.ediv hc
  refine s_seq (s_set (d := .int (corOf i).many) 7 nd (x_w1 (x_v 0) x_int)) ?_
  have xr : ∀ {X : Cx} {ρ : List Sl} {e1 e2 e3 e4 : Expr} {p1 p2 p3 : Pos}, PE X e1 (tD ρ (.int st)) → PE X e2 (tD ρ (.int st)) → PE X e3 (tD ρ (.int (corOf i).many)) → PE X e4 (tD ρ (.int (corOf i).many)) → PE X (.BinOp e1 .Sub (.BinOp (.BinOp e2 .FloorDiv e3 p1) .Mult e4 p2) p3) (tD ρ (.int (st - st / (corOf i).many * (corOf i).many))) := fun a b c d => x_sub a (x_mulS (x_divS b c hc (W.hM.mono (by decide))) d (qB.mono (by decide)) (W.hM.mono (by decide)))
  refine s_seq (s_set (d := .int (rightsI (halfI i) (st - st / (corOf i).many * (corOf i).many) 1)) 8 nd (x_f (fo_law_rights hh) hr (a_cons (x_w0 (x_v 0) x_int) (a_cons (xr (x_v 2) (x_v 2) (x_v 7) (x_v 7)) (a_cons x_int a_nil))) ⟨halfI i, _, 1, rfl, rfl, hq, Bd.lit 2 (by decide)⟩)) ?_
  refine s_seq (s_set 9 nd (x_v 8)) ?_
  refine r_if (ρ1 := [.val (worldD o i), .any, .val (.int st), .any, .val (.int (rowW o i k).u), .val (.int (rowW o i k).s), .val (.int (rowW o i k).e), .val (.int (corOf i).many), .any, .val (.int (cntW (halfI i) (rowW o i k) (st - st / (corOf i).many * (corOf i).many)))]) (t_eq (x_v 3) x_int rfl) (fun h2 => ?_) (fun h2 => ?_) ?_
  · refine s_seq (s_set 9 nd (x_sub (xr (x_v 2) (x_v 2) (x_v 7) (x_v 7)) (x_v 8))) (s_nil ⟨.inr rfl, .inl rfl, .inr rfl, .inl rfl, .inr rfl, .inr rfl, .inr rfl, .inr rfl, .inl rfl, .inr (by unfold cntW; rw [ifT h2]), trivial⟩)
  · exact s_nil ⟨.inr rfl, .inl rfl, .inr rfl, .inl rfl, .inr rfl, .inr rfl, .inr rfl, .inr rfl, .inl rfl, .inr (by unfold cntW; rw [ifF h2]), trivial⟩
  exact r_ret (x_is (x_mod (x_add (x_f (fo_law_wave hh) hr (a_cons (x_divS (x_v 9) (x_v 4) hw.u0 (hw.uB.mono (by decide))) (a_cons (x_v 5) a_nil)) ⟨_, _, rfl, rfl, sP, hw.sB.mono (by decide)⟩) (x_mulS (x_divS (x_v 2) (x_v 7) hc (W.hM.mono (by decide))) (x_v 6) (qB.mono (by decide)) (hw.eB.mono (by decide)))) (x_v 5) sP) (by unfold showsI showsW; rw [ifF hd])) sa
end Sd

namespace Sd
open PySem PySem.Spec L2
open PyProof.Rows (envOfC)

/-! ### the law's walk of an outer dial -/
def oDn (w : Rw) (st : Int) : Int := st / w.u - st / (w.u * w.s)
def oFu (w : Rw) (v st way : Int) : Int := way * (v - oDn w st) % w.s
def oD2 (w : Rw) (v st way : Int) : Int := oDn w st + way * oFu w v st way
def oTn (w : Rw) (v st way : Int) : Int := oD2 w v st way - 1 + (1 - way) / 2
def oPl (w : Rw) (v st way : Int) : Int := w.u * (oTn w v st way / (w.s - 1) * w.s + oTn w v st way % (w.s - 1) + 1) - (1 - way) / 2
def outerI (w : Rw) (v st way : Int) : Option Int := if oFu w v st way = 0 then some st else if oD2 w v st way < 0 ∨ w.e < oD2 w v st way then none else some (oPl w v st way)
/-! ### _law_outer -/
def F_law_outer (ds : List D) (r : Res) : Prop := ∃ (w : Rw) (v st way : Int), ds = [w.D, .int v, .int st, .int way] ∧ r = .ok (optD (outerI w v st way)) ∧ RwOk w ∧ Bd 1700 v ∧ Bd 1700 st ∧ Bd 2 way
theorem sc_law_outer : FnScope ["_law_row", "_law_value", "_law_stage", "_law_way", "_law_side", "_law_unit", "_law_size", "_law_most", "_law_done", "_law_further", "_law_turn"] ["_law_row", "_law_value", "_law_stage", "_law_way"] (defScope s_law_outer) := ⟨rfl, rfl, rfl, by decide +kernel, rfl, by decide +kernel, by decide +kernel⟩
theorem fo_law_outer {Y : Wo} (hh : Y.hd) : Fo Y 1 "_law_outer" ["_law_row", "_law_value", "_law_stage", "_law_way"] F_law_outer := by
  have nd : (["_law_row", "_law_value", "_law_stage", "_law_way", "_law_side", "_law_unit", "_law_size", "_law_most", "_law_done", "_law_further", "_law_turn"] : List Str).Nodup := sc_law_outer.nd
  refine mkF (k := 0) (N := ["_law_row", "_law_value", "_law_stage", "_law_way", "_law_side", "_law_unit", "_law_size", "_law_most", "_law_done", "_law_further", "_law_turn"]) hh 61 ds_law_outer sc_law_outer (fun _ _ _ _ _ _ us hl => match us, hl with | [_, _, _, _], _ => rfl) (by rintro ds r ⟨w, v, st, way, rfl, rfl, hw, vB, sB, wB⟩; rfl) ?_
  rintro cdv A outer s H E ds r hr ⟨w, v, st, way, rfl, rfl, hw, vB, sB, wB⟩
  have s2 := hw.s2
  have sP : 0 < w.s := by omega
  have mP := Int.mul_pos hw.u0 sP
  have mB : Bd 1742 (w.u * w.s) := (hw.uB.mul hw.sB).mono (by decide)
  have dB : Bd 3401 (oDn w st) := (sB.ediv hw.u0).sub (sB.ediv mP)
  have fB : Bd 41 (oFu w v st way) := hw.sB.emod sP
  have d2B : Bd 3445 (oD2 w v st way) := dB.add (wB.mul fB)
  have hB : Bd 4 ((1 - way) / 2) := ((Bd.lit (i := 1) 1).sub wB).ediv (by decide)
  have tB : Bd 3452 (oTn w v st way) := ((d2B.sub (Bd.lit (i := 1) 1)).add hB).mono (by decide)
  have nd1 : 0 < w.s - 1 := by omega
  have s1B : Bd 43 (w.s - 1) := hw.sB.sub (Bd.lit (i := 1) 1)
  have xh : ∀ {X : Cx} {ρ : List Sl} {e : Expr} {k1 k2 : Nat} {p1 p2 p3 p4 : Pos}, PE X e (tD ρ (.int way)) → PE X (.BinOp (.BinOp (.Constant (.int 1) k1 p1) .Sub e p2) .FloorDiv (.Constant (.int 2) k2 p3) p4) (tD ρ (.int ((1 - way) / 2))) := fun a => x_divS (x_sub x_int a) x_int (by decide) ((Bd.lit 4 (by decide)).mono (by decide))
  refine s_seq (s_asg4 4 5 6 7 nd (a := .int w.sd) (b := .int w.u) (c := .int w.s) (d := .int w.e) (x_v 0)) ?_
  refine s_seq (s_set (d := .int (oDn w st)) 8 nd (x_sub (x_divS (x_v 2) (x_v 5) hw.u0 (hw.uB.mono (by decide))) (x_divS (x_v 2) (x_mulS (x_v 5) (x_v 6) (hw.uB.mono (by decide)) (hw.sB.mono (by decide))) mP (mB.mono (by decide))))) ?_
  refine s_seq (s_set (d := .int (oFu w v st way)) 9 nd (x_mod (x_mul (x_v 3) (x_sub (x_v 1) (x_v 8)) wB (vB.sub dB) (by decide)) (x_v 6) sP)) ?_
  refine r_when (t_eq (x_v 9) x_int rfl) (fun hc => ⟨r_ret (x_is (x_v 2) (by unfold outerI; rw [ifT hc]; rfl)) sa, rfl⟩) (fun hc => ?_)
  refine s_seq (s_set (d := .int (oD2 w v st way)) 8 nd (x_add (x_v 8) (x_mul (x_v 3) (x_v 9) wB fB (by decide)))) ?_
  refine r_when (t_W (w_or (t_lt (x_v 8) x_int) (fun h1 => w_or1 (t_gt (x_v 8) (x_v 7))))) (fun h2 => ⟨r_ret (x_is x_non ?_) sa, rfl⟩) (fun h2 => ?_)
  · unfold outerI
    rw [ifF hc, if_pos (by simpa using h2)]; rfl
  have h3 : ¬ (oD2 w v st way < 0 ∨ w.e < oD2 w v st way) := by simpa using h2
  refine s_seq (s_set (d := .int (oTn w v st way)) 10 nd (x_add (x_sub (x_v 8) x_int) (xh (x_v 3)))) ?_
  refine r_ret (x_is (x_sub (x_mul (x_v 5) (x_add (x_add (x_mul (x_divS (x_v 10) (x_sub (x_v 6) x_int) nd1 (s1B.mono (by decide))) (x_v 6) (tB.ediv nd1) hw.sB (by decide)) (x_mod (x_toInt hh.b_int (x_v 10)) (x_sub (x_v 6) x_int) nd1)) x_int) hw.uB ((((tB.ediv nd1).mul hw.sB).add (s1B.emod nd1)).add (Bd.lit (i := 1) 1)) (by decide)) (xh (x_v 3))) ?_) sa
  unfold outerI
  rw [ifF hc, if_neg h3]; rfl
/-! ### the law's walk of an inner dial, in the core -/
def cWv (h : Hf) (w : Rw) (st : Int) : Int := cntW h w st / w.u
def cNr (h : Hf) (w : Rw) (v st way : Int) : Int := min (way * (v - cWv h w st) % (2 * w.s)) (way * (2 * w.s - 1 - v - cWv h w st) % (2 * w.s))
def cW2 (h : Hf) (w : Rw) (v st way : Int) : Int := cWv h w st + way * cNr h w v st way
def cEnd (h : Hf) (w : Rw) : Int := if w.sd = 0 then h.L else h.R
def innerI (h : Hf) (w : Rw) (v st way : Int) : Option Int :=
  if cNr h w v st way = 0 then some st else if cW2 h w v st way < 0 ∨ cEnd h w ≤ cW2 h w v st way * w.u then none
  else if way = 1 then some (begsI h w.sd (cW2 h w v st way * w.u)) else some (begsI h w.sd (cW2 h w v st way * w.u + w.u) - 1)
theorem cntW_bd {h : Hf} {w : Rw} {st : Int} (hk : HfOk h) (sB : Bd 1700 st) : Bd 3401 (cntW h w st) := by
  have b := lrI_bd hk st 1 (Builtin.Int.intBits h.R + 1)
  have r : Bd 1700 (rightsI h st 1) := hk.RB.le b.1 (by unfold rightsI; omega)
  unfold cntW
  split
  · exact sB.sub r
  · exact r.mono (by decide)
/-! ### _law_core -/
def F_law_core (ds : List D) (r : Res) : Prop := ∃ (o i : List Int) (w : Rw) (v st way : Int), ds = [worldD o i, w.D, .int v, .int st, .int way] ∧ r = .ok (optD (innerI (halfI i) w v st way)) ∧ WOk o i ∧ RwOk w ∧ w.sd ≠ 2 ∧ Bd 1700 v ∧ Bd 1700 st ∧ Bd 2 way
theorem sc_law_core : FnScope ["_law_world_here", "_law_row", "_law_value", "_law_stage", "_law_way", "_law_half", "_law_side", "_law_unit", "_law_size", "_law_last", "_law_count", "_law_wave_here", "_law_near"] ["_law_world_here", "_law_row", "_law_value", "_law_stage", "_law_way"] (defScope s_law_core) := ⟨rfl, rfl, rfl, by decide +kernel, rfl, by decide +kernel, by decide +kernel⟩
theorem fo_law_core {Y : Wo} (hh : Y.hd) : Fo Y 4 "_law_core" ["_law_world_here", "_law_row", "_law_value", "_law_stage", "_law_way"] F_law_core := by
  have nd : (["_law_world_here", "_law_row", "_law_value", "_law_stage", "_law_way", "_law_half", "_law_side", "_law_unit", "_law_size", "_law_last", "_law_count", "_law_wave_here", "_law_near"] : List Str).Nodup := sc_law_core.nd
  refine mkF (k := 3) (N := ["_law_world_here", "_law_row", "_law_value", "_law_stage", "_law_way", "_law_half", "_law_side", "_law_unit", "_law_size", "_law_last", "_law_count", "_law_wave_here", "_law_near"]) hh 62 ds_law_core sc_law_core (fun _ _ _ _ _ _ us hl => match us, hl with | [_, _, _, _, _], _ => rfl) (by rintro ds r ⟨o, i, w, v, st, way, rfl, rfl, W, hw, hn, vB, sB, wB⟩; rfl) ?_
  rintro cdv A outer s H E ds r hr ⟨o, i, w, v, st, way, rfl, rfl, W, hw, hn, vB, sB, wB⟩
  have s2 := hw.s2
  have sP : 0 < w.s := by omega
  have hq := halfI_ok W.hi
  have ss : 0 < 2 * w.s := by omega
  have ssB : Bd 43 (2 * w.s) := ((Bd.lit (i := 2) 2).mul hw.sB).mono (by decide)
  have cB : Bd 3401 (cntW (halfI i) w st) := cntW_bd hq sB
  have vwB : Bd 3401 (cWv (halfI i) w st) := cB.ediv hw.u0
  have nB : Bd 43 (cNr (halfI i) w v st way) := by
    have a := Int.emod_nonneg (way * (v - cWv (halfI i) w st)) (show 2 * w.s ≠ 0 by omega)
    have b := Int.emod_lt_of_pos (way * (v - cWv (halfI i) w st)) ss
    have c := Int.emod_nonneg (way * (2 * w.s - 1 - v - cWv (halfI i) w st)) (show 2 * w.s ≠ 0 by omega)
    exact ssB.le (by unfold cNr; omega) (by unfold cNr; omega)
  have w2B : Bd 3447 (cW2 (halfI i) w v st way) := vwB.add (wB.mul nB)
  have x2s : ∀ {X : Cx} {ρ : List Sl} {e : Expr} {k1 : Nat} {p1 p2 : Pos}, PE X e (tD ρ (.int w.s)) → PE X (.BinOp (.Constant (.int 2) k1 p1) .Mult e p2) (tD ρ (.int (2 * w.s))) := fun a => x_mul x_int a (Bd.lit (i := 2) 2) hw.sB (by decide)
  refine s_seq (s_set (d := (halfI i).D) 5 nd (x_w0 (x_v 0) x_int)) ?_
  refine s_seq (s_asg4 6 7 8 9 nd (a := .int w.sd) (b := .int w.u) (c := .int w.s) (d := .int w.e) (x_v 1)) ?_
  refine s_seq (s_set (d := .int (rightsI (halfI i) st 1)) 10 nd (x_f (fo_law_rights hh) hr (a_cons (x_v 5) (a_cons (x_v 3) (a_cons x_int a_nil))) ⟨halfI i, st, 1, rfl, rfl, hq, Bd.lit 2 (by decide)⟩)) ?_
  refine r_if (ρ1 := [.val (worldD o i), .any, .val (.int v), .val (.int st), .val (.int way), .val (halfI i).D, .val (.int w.sd), .val (.int w.u), .val (.int w.s), .any, .val (.int (cntW (halfI i) w st)), .any, .any]) (t_eq (x_v 6) x_int rfl) (fun h2 => ?_) (fun h2 => ?_) ?_
  · refine s_seq (s_set 10 nd (x_sub (x_v 3) (x_v 10))) (s_nil ⟨.inr rfl, .inl rfl, .inr rfl, .inr rfl, .inr rfl, .inr rfl, .inr rfl, .inr rfl, .inr rfl, .inl rfl, .inr (by unfold cntW; rw [ifT h2]), .inl rfl, .inl rfl, trivial⟩)
  · exact s_nil ⟨.inr rfl, .inl rfl, .inr rfl, .inr rfl, .inr rfl, .inr rfl, .inr rfl, .inr rfl, .inr rfl, .inl rfl, .inr (by unfold cntW; rw [ifF h2]), .inl rfl, .inl rfl, trivial⟩
  refine s_seq (s_set (d := .int (cWv (halfI i) w st)) 11 nd (x_divS (x_v 10) (x_v 7) hw.u0 (hw.uB.mono (by decide)))) ?_
  refine s_seq (s_set (d := .int (cNr (halfI i) w v st way)) 12 nd (x_min hh.b_min rfl (x_mod (x_mul (x_v 4) (x_sub (x_v 2) (x_v 11)) wB (vB.sub vwB) (by decide)) (x2s (x_v 8)) ss) (x_mod (x_mul (x_v 4) (x_sub (x_sub (x_sub (x2s (x_v 8)) x_int) (x_v 2)) (x_v 11)) wB (((ssB.sub (Bd.lit (i := 1) 1)).sub vB).sub vwB) (by decide)) (x2s (x_v 8)) ss))) ?_
  refine r_when (t_eq (x_v 12) x_int rfl) (fun hc => ⟨r_ret (x_is (x_v 3) (by unfold innerI; rw [ifT hc]; rfl)) sa, rfl⟩) (fun hc => ?_)
  refine s_seq (s_set (d := .int (cW2 (halfI i) w v st way)) 11 nd (x_add (x_v 11) (x_mul (x_v 4) (x_v 12) wB nB (by decide)))) ?_
  have hsd : 1 + w.sd = ((1 + w.sd.toNat : Nat) : Int) := by rcases hw.sd with e | e | e <;> omega
  have hcE : (halfI i).ns[1 + w.sd.toNat]? = some (cEnd (halfI i) w) := by
    rcases hw.sd with e | e | e
    · unfold cEnd; rw [if_pos e, e]; rfl
    · unfold cEnd; rw [if_neg (by omega), e]; rfl
    · exact absurd e hn
  have wuB : Bd 5147 (cW2 (halfI i) w v st way * w.u) := w2B.mul hw.uB
  refine r_when (t_W (w_or (t_lt (x_v 11) x_int) (fun h1 => w_or1 (t_ge (x_mul (x_v 11) (x_v 7) w2B hw.uB (by decide)) (x_hf (1 + w.sd.toNat) (x_v 5) (x_add x_int (x_v 6)) hsd hcE))))) (fun h2 => ⟨r_ret (x_is x_non ?_) sa, rfl⟩) (fun h2 => ?_)
  · unfold innerI
    rw [ifF hc, if_pos (by simpa using h2)]; rfl
  have h3 : ¬ (cW2 (halfI i) w v st way < 0 ∨ cEnd (halfI i) w ≤ cW2 (halfI i) w v st way * w.u) := by simpa using h2
  have h4 : 0 ≤ cW2 (halfI i) w v st way ∧ cW2 (halfI i) w v st way * w.u < cEnd (halfI i) w := by omega
  have eB : Bd 1700 (cEnd (halfI i) w) := by
    unfold cEnd
    split
    · exact hq.LB
    · exact hq.RB
  have nn := Int.mul_nonneg h4.1 (Int.le_of_lt hw.u0)
  have kB : Bd 1700 (cW2 (halfI i) w v st way * w.u) := eB.le nn (by omega)
  refine r_when (t_eq (x_v 4) x_int rfl) (fun h5 => ⟨r_ret (x_is (x_f (fo_law_begins hh) hr (a_cons (x_v 5) (a_cons (x_v 6) (a_cons (x_mul (x_v 11) (x_v 7) w2B hw.uB (by decide)) a_nil))) ⟨halfI i, _, _, rfl, rfl, hq, kB.mono (by decide)⟩) ?_) sa, rfl⟩) (fun h5 => ?_)
  · unfold innerI
    rw [ifF hc, if_neg h3, ifT h5]; rfl
  refine r_ret (x_is (x_sub (x_f (fo_law_begins hh) hr (a_cons (x_v 5) (a_cons (x_v 6) (a_cons (x_add (x_mul (x_v 11) (x_v 7) w2B hw.uB (by decide)) (x_v 7)) a_nil))) ⟨halfI i, _, _, rfl, rfl, hq, (kB.add hw.uB).mono (by decide)⟩) x_int) ?_) sa
  unfold innerI
  rw [ifF hc, if_neg h3, ifF h5]; rfl
end Sd

namespace Sd
/-! ### counts that begin one behind the other -/
/-- n is the greatest of 0 .. N - 1 that has begun by st -/
def Cnt (F : Int → Int) (N st n : Int) : Prop := 0 ≤ n ∧ n ≤ N - 1 ∧ n + F n ≤ st ∧ ∀ j, n < j → j ≤ N - 1 → st < j + F j
structure MonF (F : Int → Int) (N : Int) : Prop where
  z : F 0 = 0
  m : ∀ a b, 0 ≤ a → a ≤ b → b ≤ N - 1 → F a ≤ F b
section
variable {F : Int → Int} {N st st' n n' : Int}
theorem Cnt.un (a : Cnt F N st n) (b : Cnt F N st n') : n = n' := by
  obtain ⟨a0, a1, a2, a3⟩ := a
  obtain ⟨b0, b1, b2, b3⟩ := b
  rcases Int.lt_trichotomy n n' with h | h | h
  · have := a3 n' h b1; omega
  · exact h
  · have := b3 n h a1; omega
theorem Cnt.mono (a : Cnt F N st n) (b : Cnt F N st' n') (h : st ≤ st') : n ≤ n' := by
  obtain ⟨a0, a1, a2, a3⟩ := a
  obtain ⟨b0, b1, b2, b3⟩ := b
  by_cases hn : n ≤ n'
  · exact hn
  · have := b3 n (by omega) a1; omega
theorem Cnt.iff (m : MonF F N) (a : Cnt F N st n) {j : Int} (h0 : 0 ≤ j) (h1 : j ≤ N - 1) : j ≤ n ↔ j + F j ≤ st := by
  obtain ⟨a0, a1, a2, a3⟩ := a
  constructor
  · intro h
    have := m.m j n h0 h a1
    omega
  · intro h
    by_cases hn : j ≤ n
    · exact hn
    · have := a3 j (by omega) h1; omega
theorem Cnt.at (m : MonF F N) (h0 : 0 ≤ n) (h1 : n ≤ N - 1) : Cnt F N (n + F n) n :=
  ⟨h0, h1, Int.le_refl _, fun j a b => by have := m.m n j h0 (by omega) b; omega⟩
theorem Cnt.pre (m : MonF F N) (h0 : 1 ≤ n) (h1 : n ≤ N - 1) : Cnt F N (n + F n - 1) (n - 1) :=
  ⟨by omega, by omega, by have := m.m (n - 1) n (by omega) (by omega) h1; omega, fun j a b => by have := m.m n j (by omega) (by omega) b; omega⟩
end
/-! ### waves -/
def nearN (q s v : Int) : Int := min ((v - q) % (2 * s)) ((2 * s - 1 - v - q) % (2 * s))
def nearB (q s v : Int) : Int := min ((-1 * (v - q)) % (2 * s)) ((-1 * (2 * s - 1 - v - q)) % (2 * s))
theorem emod_le_self {a b : Int} (h : 0 ≤ a) (hb : 0 < b) : a % b ≤ a := by
  have := Int.mul_ediv_add_emod a b
  have := Int.mul_nonneg (Int.le_of_lt hb) (Int.ediv_nonneg h (Int.le_of_lt hb))
  omega
theorem wave_iff {x s v : Int} (h0 : 0 ≤ v) (h1 : v < s) : waveI x s = v ↔ x % (2 * s) = v ∨ x % (2 * s) = 2 * s - 1 - v := by
  have a := Int.emod_nonneg x (show 2 * s ≠ 0 by omega)
  have b := Int.emod_lt_of_pos x (show 0 < 2 * s by omega)
  unfold waveI
  split <;> omega
theorem nearN_spec {q s v : Int} (h0 : 0 ≤ v) (h1 : v < s) : 0 ≤ nearN q s v ∧ nearN q s v < 2 * s ∧ waveI (q + nearN q s v) s = v ∧ ∀ q', q ≤ q' → waveI q' s = v → q + nearN q s v ≤ q' := by
  have sP : 0 < 2 * s := by omega
  have a0 := Int.emod_nonneg (v - q) (show 2 * s ≠ 0 by omega)
  have a1 := Int.emod_lt_of_pos (v - q) sP
  have b0 := Int.emod_nonneg (2 * s - 1 - v - q) (show 2 * s ≠ 0 by omega)
  have b1 := Int.emod_lt_of_pos (2 * s - 1 - v - q) sP
  have ea : (q + (v - q) % (2 * s)) % (2 * s) = v := by rw [Int.add_emod_emod, show q + (v - q) = v by omega, Int.emod_eq_of_lt h0 (by omega)]
  have eb : (q + (2 * s - 1 - v - q) % (2 * s)) % (2 * s) = 2 * s - 1 - v := by rw [Int.add_emod_emod, show q + (2 * s - 1 - v - q) = 2 * s - 1 - v by omega, Int.emod_eq_of_lt (by omega) (by omega)]
  refine ⟨by unfold nearN; omega, by unfold nearN; omega, ?_, fun q' hq hw => ?_⟩
  · rw [wave_iff h0 h1]
    rcases Int.le_total ((v - q) % (2 * s)) ((2 * s - 1 - v - q) % (2 * s)) with h | h
    · left; unfold nearN; rw [Int.min_eq_left h]; exact ea
    · right; unfold nearN; rw [Int.min_eq_right h]; exact eb
  · have c0 : (q' - q) % (2 * s) ≤ q' - q := emod_le_self (by omega) sP
    rcases (wave_iff h0 h1).mp hw with h | h
    · have : (v - q) % (2 * s) = (q' - q) % (2 * s) := by rw [← h, Int.emod_sub_emod]
      unfold nearN; omega
    · have : (2 * s - 1 - v - q) % (2 * s) = (q' - q) % (2 * s) := by rw [← h, Int.emod_sub_emod]
      unfold nearN; omega
theorem nearB_spec {q s v : Int} (h0 : 0 ≤ v) (h1 : v < s) : 0 ≤ nearB q s v ∧ nearB q s v < 2 * s ∧ waveI (q - nearB q s v) s = v ∧ ∀ q', q' ≤ q → waveI q' s = v → q' ≤ q - nearB q s v := by
  have sP : 0 < 2 * s := by omega
  have e1 : -1 * (v - q) = q - v := by omega
  have e2 : -1 * (2 * s - 1 - v - q) = q - (2 * s - 1 - v) := by omega
  have a0 := Int.emod_nonneg (q - v) (show 2 * s ≠ 0 by omega)
  have a1 := Int.emod_lt_of_pos (q - v) sP
  have b0 := Int.emod_nonneg (q - (2 * s - 1 - v)) (show 2 * s ≠ 0 by omega)
  have b1 := Int.emod_lt_of_pos (q - (2 * s - 1 - v)) sP
  have ea : (q - (q - v) % (2 * s)) % (2 * s) = v := by rw [Int.sub_emod_emod, show q - (q - v) = v by omega, Int.emod_eq_of_lt h0 (by omega)]
  have eb : (q - (q - (2 * s - 1 - v)) % (2 * s)) % (2 * s) = 2 * s - 1 - v := by rw [Int.sub_emod_emod, show q - (q - (2 * s - 1 - v)) = 2 * s - 1 - v by omega, Int.emod_eq_of_lt (by omega) (by omega)]
  have eN : nearB q s v = min ((q - v) % (2 * s)) ((q - (2 * s - 1 - v)) % (2 * s)) := by unfold nearB; rw [e1, e2]
  rw [eN]
  refine ⟨by omega, by omega, ?_, fun q' hq hw => ?_⟩
  · rw [wave_iff h0 h1]
    rcases Int.le_total ((q - v) % (2 * s)) ((q - (2 * s - 1 - v)) % (2 * s)) with h | h
    · left; rw [Int.min_eq_left h]; exact ea
    · right; rw [Int.min_eq_right h]; exact eb
  · have c0 : (q - q') % (2 * s) ≤ q - q' := emod_le_self (by omega) sP
    rcases (wave_iff h0 h1).mp hw with h | h
    · have : (q - v) % (2 * s) = (q - q') % (2 * s) := by rw [← h, Int.sub_emod_emod]
      omega
    · have : (q - (2 * s - 1 - v)) % (2 * s) = (q - q') % (2 * s) := by rw [← h, Int.sub_emod_emod]
      omega
/-- what comes next, what came last is told by what it is -/
theorem near_un {q s v x : Int} (h0 : 0 ≤ v) (h1 : v < s) (hx : q ≤ x) (hw : waveI x s = v) (hn : ∀ y, q ≤ y → y < x → waveI y s ≠ v) : q + nearN q s v = x := by
  obtain ⟨a, b, c, d⟩ := nearN_spec (q := q) h0 h1
  have := d x hx hw
  by_cases e : q + nearN q s v = x
  · exact e
  · exact absurd c (hn _ (by omega) (by omega))
theorem back_un {q s v x : Int} (h0 : 0 ≤ v) (h1 : v < s) (hx : x ≤ q) (hw : waveI x s = v) (hn : ∀ y, x < y → y ≤ q → waveI y s ≠ v) : q - nearB q s v = x := by
  obtain ⟨a, b, c, d⟩ := nearB_spec (q := q) h0 h1
  have := d x hx hw
  by_cases e : q - nearB q s v = x
  · exact e
  · exact absurd c (hn _ (by omega) (by omega))
/-- a wave by its lap -/
theorem wave_lap {s v : Int} (h0 : 0 ≤ v) (h1 : v < s) (lap r : Int) (r0 : 0 ≤ r) (r1 : r < s) : waveI (lap * s + r) s = v ↔ r = spotI s v lap := by
  rw [wave_iff h0 h1]
  have eq := Int.mul_ediv_add_emod lap 2
  have m0 := Int.emod_nonneg lap (show (2 : Int) ≠ 0 by omega)
  have m1 := Int.emod_lt_of_pos lap (show (0 : Int) < 2 by omega)
  unfold spotI
  by_cases e : lap % 2 = 0
  · rw [if_pos e]
    have hl : lap * s + r = r + 2 * s * (lap / 2) := by
      have : lap = 2 * (lap / 2) := by omega
      rw [show lap * s = (2 * (lap / 2)) * s by rw [← this], Int.mul_right_comm]; omega
    rw [hl, Int.add_mul_emod_self_left, Int.emod_eq_of_lt r0 (by omega)]
    omega
  · rw [if_neg e]
    have hl : lap * s + r = (r + s) + 2 * s * (lap / 2) := by
      have : lap = 2 * (lap / 2) + 1 := by omega
      rw [show lap * s = (2 * (lap / 2) + 1) * s by rw [← this], Int.add_mul, Int.mul_right_comm]; omega
    rw [hl, Int.add_mul_emod_self_left, Int.emod_eq_of_lt (by omega) (by omega)]
    omega
theorem spot_bd {s v lap : Int} (h0 : 0 ≤ v) (h1 : v < s) : 0 ≤ spotI s v lap ∧ spotI s v lap ≤ s - 1 := by unfold spotI; split <;> omega
theorem spot_s {s v lap : Int} : spotI s v (lap + 1) = s - 1 - spotI s v lap := by
  unfold spotI
  by_cases h : lap % 2 = 0
  · rw [if_pos h, if_neg (by omega)]
  · rw [if_neg h, if_pos (by omega)]; omega
theorem lap_rest (q : Int) {s : Int} (hs : 0 < s) : q = q / s * s + q % s ∧ 0 ≤ q % s ∧ q % s < s := by
  have := Int.mul_ediv_add_emod q s
  rw [Int.mul_comm s] at this
  exact ⟨this.symm, Int.emod_nonneg _ (by omega), Int.emod_lt_of_pos _ hs⟩
/-- the lap of a number between two borders -/
theorem lap_of {q s l : Int} (hs : 0 < s) (a : l * s ≤ q) (b : q < (l + 1) * s) : q / s = l := by
  rw [Int.ediv_eq_iff_of_pos hs]
  rw [Int.add_mul, Int.one_mul] at b
  omega
theorem near_eq {q s v : Int} (h0 : 0 ≤ v) (h1 : v < s) : q + nearN q s v = if q ≤ q / s * s + spotI s v (q / s) then q / s * s + spotI s v (q / s) else (q / s + 1) * s + s - 1 - spotI s v (q / s) := by
  have hs : 0 < s := by omega
  obtain ⟨e, r0, r1⟩ := lap_rest q hs
  have sb := spot_bd (lap := q / s) h0 h1
  by_cases hq : q ≤ q / s * s + spotI s v (q / s)
  · rw [if_pos hq]
    refine near_un h0 h1 hq ((wave_lap h0 h1 _ _ sb.1 (by omega)).mpr rfl) fun y a b z => ?_
    have : y = q / s * s + (y - q / s * s) := by omega
    rw [this, wave_lap h0 h1 _ _ (by omega) (by omega)] at z
    omega
  · rw [if_neg hq]
    have em : (q / s + 1) * s = q / s * s + s := by rw [Int.add_mul, Int.one_mul]
    have e2 : (q / s + 1) * s + s - 1 - spotI s v (q / s) = (q / s + 1) * s + spotI s v (q / s + 1) := by rw [spot_s]; omega
    have sb2 := spot_bd (lap := q / s + 1) h0 h1
    rw [e2]
    refine near_un h0 h1 (by omega) ((wave_lap h0 h1 _ _ sb2.1 (by omega)).mpr rfl) fun y a b z => ?_
    by_cases hy : y < (q / s + 1) * s
    · have : y = q / s * s + (y - q / s * s) := by omega
      rw [this, wave_lap h0 h1 _ _ (by omega) (by omega)] at z
      omega
    · have : y = (q / s + 1) * s + (y - (q / s + 1) * s) := by omega
      rw [this, wave_lap h0 h1 _ _ (by omega) (by omega)] at z
      omega
theorem back_eq {q s v : Int} (h0 : 0 ≤ v) (h1 : v < s) : q - nearB q s v = if q / s * s + spotI s v (q / s) ≤ q then q / s * s + spotI s v (q / s) else (q / s - 1) * s + s - 1 - spotI s v (q / s) := by
  have hs : 0 < s := by omega
  obtain ⟨e, r0, r1⟩ := lap_rest q hs
  have sb := spot_bd (lap := q / s) h0 h1
  by_cases hq : q / s * s + spotI s v (q / s) ≤ q
  · rw [if_pos hq]
    refine back_un h0 h1 hq ((wave_lap h0 h1 _ _ sb.1 (by omega)).mpr rfl) fun y a b z => ?_
    have : y = q / s * s + (y - q / s * s) := by omega
    rw [this, wave_lap h0 h1 _ _ (by omega) (by omega)] at z
    omega
  · rw [if_neg hq]
    have em : (q / s - 1) * s = q / s * s - s := by rw [Int.sub_mul, Int.one_mul]
    have es : spotI s v (q / s) = s - 1 - spotI s v (q / s - 1) := by
      have := spot_s (s := s) (v := v) (lap := q / s - 1)
      rw [show q / s - 1 + 1 = q / s by omega] at this
      omega
    have e2 : (q / s - 1) * s + s - 1 - spotI s v (q / s) = (q / s - 1) * s + spotI s v (q / s - 1) := by omega
    have sb2 := spot_bd (lap := q / s - 1) h0 h1
    rw [e2]
    refine back_un h0 h1 (by omega) ((wave_lap h0 h1 _ _ sb2.1 (by omega)).mpr rfl) fun y a b z => ?_
    by_cases hy : q / s * s ≤ y
    · have : y = q / s * s + (y - q / s * s) := by omega
      rw [this, wave_lap h0 h1 _ _ (by omega) (by omega)] at z
      omega
    · have : y = (q / s - 1) * s + (y - (q / s - 1) * s) := by omega
      rw [this, wave_lap h0 h1 _ _ (by omega) (by omega)] at z
      omega
/-! ### the count at which a value comes, came -/
def nextC (s u v c many : Int) : Option Int := if (c / u + nearN (c / u) s v) * u < many then some (max c ((c / u + nearN (c / u) s v) * u)) else none
def lastC (s u v c : Int) : Option Int := if c / u - nearB (c / u) s v < 0 then none else some (min c ((c / u - nearB (c / u) s v) * u + u - 1))
theorem ediv_le_iff {c u q : Int} (hu : 0 < u) : c / u ≤ q ↔ c < q * u + u := by
  rw [show q * u + u = (q + 1) * u by rw [Int.add_mul, Int.one_mul], ← Int.ediv_lt_iff_lt_mul hu]; omega
theorem showOn_eq {s u v c K : Int} (h0 : 0 ≤ v) (h1 : v < s) (hu : 0 < u) (hc : c < u * s * K) : showOn s u v c (u * s * K) = nextC s u v c (u * s * K) := by
  have hs : 0 < s := by omega
  have el : c / (u * s) = c / u / s := by rw [Int.ediv_ediv_of_nonneg (by omega)]
  have hp : 0 < u * s := Int.mul_pos hu hs
  have hK : c / (u * s) < K := by rw [Int.ediv_lt_iff_lt_mul hp, Int.mul_comm K]; exact hc
  unfold showOn nextC begI
  rw [el, near_eq h0 h1]
  rw [el] at hK
  have sb := spot_bd (lap := c / u / s) h0 h1
  by_cases hq : c / u ≤ c / u / s * s + spotI s v (c / u / s)
  · rw [if_pos hq, if_pos ((ediv_le_iff hu).mp hq), if_pos]
    have h2 : c / u / s * s + spotI s v (c / u / s) < K * s := by
      have := Int.mul_le_mul_of_nonneg_right (show c / u / s + 1 ≤ K by omega) (show 0 ≤ s by omega)
      rw [Int.add_mul, Int.one_mul] at this
      omega
    have h3 := Int.mul_lt_mul_of_pos_right h2 hu
    have e : K * s * u = u * s * K := by rw [Int.mul_assoc, Int.mul_comm, Int.mul_comm s u]
    omega
  · rw [if_neg hq, if_neg (fun z => hq ((ediv_le_iff hu).mpr z))]
    by_cases h2 : ((c / u / s + 1) * s + s - 1 - spotI s v (c / u / s)) * u < u * s * K
    · rw [if_pos h2, if_pos h2]
      congr 1
      refine (Int.max_eq_right ?_).symm
      obtain ⟨e, r0, r1⟩ := lap_rest (c / u) hs
      have h3 : c / u ≤ ((c / u / s + 1) * s + s - 1 - spotI s v (c / u / s)) - 1 := by
        rw [Int.add_mul, Int.one_mul]; omega
      rw [ediv_le_iff hu, Int.sub_mul, Int.one_mul] at h3
      omega
    · rw [if_neg h2, if_neg h2]
theorem showBack_eq {s u v c : Int} (h0 : 0 ≤ v) (h1 : v < s) (hu : 0 < u) (hc0 : 0 ≤ c) : showBack s u v c = lastC s u v c := by
  have hs : 0 < s := by omega
  have el : c / (u * s) = c / u / s := by rw [Int.ediv_ediv_of_nonneg (by omega)]
  unfold showBack lastC begI
  rw [el, back_eq h0 h1]
  have q0 : 0 ≤ c / u := Int.ediv_nonneg hc0 (by omega)
  have l0 : 0 ≤ c / u / s := Int.ediv_nonneg q0 (by omega)
  have sb := spot_bd (lap := c / u / s) h0 h1
  have m0 := Int.mul_nonneg l0 (show 0 ≤ s by omega)
  by_cases hq : c / u / s * s + spotI s v (c / u / s) ≤ c / u
  · rw [if_pos hq, if_pos ((Int.le_ediv_iff_mul_le hu).mp hq), if_neg (by omega)]
  · rw [if_neg hq, if_neg (fun z => hq ((Int.le_ediv_iff_mul_le hu).mpr z))]
    by_cases h2 : c / u / s = 0
    · rw [if_pos h2, if_pos (by rw [h2] at sb ⊢; omega)]
    · have h3 : 0 ≤ (c / u / s - 1) * s := Int.mul_nonneg (by omega) (by omega)
      rw [if_neg h2, if_neg (by omega)]
      congr 1
      have e : ((c / u / s - 1) * s + s - 1 - spotI s v (c / u / s)) * u + u = ((c / u / s - 1) * s + s - spotI s v (c / u / s)) * u := by
        rw [show (c / u / s - 1) * s + s - 1 - spotI s v (c / u / s) = ((c / u / s - 1) * s + s - spotI s v (c / u / s)) - 1 by omega, Int.sub_mul ((c / u / s - 1) * s + s - spotI s v (c / u / s)), Int.one_mul]; omega
      rw [e]
      refine (Int.min_eq_right ?_).symm
      have h4 : (c / u / s - 1) * s + s - spotI s v (c / u / s) ≤ c / u := by
        obtain ⟨e, r0, r1⟩ := lap_rest (c / u) hs
        rw [Int.sub_mul, Int.one_mul]; omega
      have := (Int.le_ediv_iff_mul_le hu).mp h4
      omega
end Sd

namespace Sd
open PySem PySem.Spec L2
open PyProof.Rows (envOfC)

/-! ### the law's walk -/
def cvW (w : Rw) (v c : Int) : Int := (v - c * w.e) % w.s
def begW (cm way : Int) : Int := (cm - 1) * (if way = -1 then 1 else 0)
def seekN (h : Hf) (cm tot : Int) (w : Rw) (v way c : Int) : Option Int :=
  if c < 0 ∨ tot ≤ c * cm then none else match innerI h w (cvW w v c) (begW cm way) way with
    | some x => some (c * cm + x)
    | none => some 0
def seekW (h : Hf) (cm tot : Int) (w : Rw) (v st way : Int) : Option Int :=
  match innerI h w (cvW w v (st / cm)) (st - st / cm * cm) way with
  | some x => some (st / cm * cm + x)
  | none => seekN h cm tot w v way (st / cm + way)
def seekI (o i : List Int) (k : Nat) (v st way : Int) : Option Int :=
  if (rowW o i k).sd = 2 then outerI (rowW o i k) v st way else seekW (halfI i) (corOf i).many ((corOf i).many * pr o) (rowW o i k) v st way
/-- an inner dial shows each value in a whole pass of the core -/
def FullL (o i : List Int) : Prop := ∀ (k : Nat) (v way : Int), k < o.length + i.length → (rowW o i k).sd ≠ 2 → 0 ≤ v → v < (rowW o i k).s → (way = 1 ∨ way = -1) → ∃ x, innerI (halfI i) (rowW o i k) v (begW (corOf i).many way) way = some x
/-! ### _law_seek -/
def F_law_seek (ds : List D) (r : Res) : Prop := ∃ (o i : List Int) (k : Nat) (v st way : Int), ds = [worldD o i, .int k, .int v, .int st, .int way] ∧ r = .ok (optD (seekI o i k v st way)) ∧ WOk o i ∧ FullL o i ∧ k < o.length + i.length ∧ Bd 1700 v ∧ 0 ≤ st ∧ Bd 1700 st ∧ (way = 1 ∨ way = -1)
theorem sc_law_seek : FnScope ["_law_world_here", "_law_dial", "_law_value", "_law_stage", "_law_way", "_law_row", "_law_core_here", "_law_copy", "_law_found", "_law_begin"] ["_law_world_here", "_law_dial", "_law_value", "_law_stage", "_law_way"] (defScope s_law_seek) := ⟨rfl, rfl, rfl, by decide +kernel, rfl, by decide +kernel, by decide +kernel⟩
theorem fo_law_seek {Y : Wo} (hh : Y.hd) : Fo Y 5 "_law_seek" ["_law_world_here", "_law_dial", "_law_value", "_law_stage", "_law_way"] F_law_seek := by
  have nd : (["_law_world_here", "_law_dial", "_law_value", "_law_stage", "_law_way", "_law_row", "_law_core_here", "_law_copy", "_law_found", "_law_begin"] : List Str).Nodup := sc_law_seek.nd
  refine mkF (k := 4) (N := ["_law_world_here", "_law_dial", "_law_value", "_law_stage", "_law_way", "_law_row", "_law_core_here", "_law_copy", "_law_found", "_law_begin"]) hh 63 ds_law_seek sc_law_seek (fun _ _ _ _ _ _ us hl => match us, hl with | [_, _, _, _, _], _ => rfl) (by rintro ds r ⟨o, i, k, v, st, way, rfl, rfl, W, FL, hk, vB, h0, sB, hway⟩; rfl) ?_
  rintro cdv A outer s H E ds r hr ⟨o, i, k, v, st, way, rfl, rfl, W, FL, hk, vB, h0, sB, hway⟩
  have wB : Bd 2 way := by rcases hway with e | e <;> rw [e] <;> exact Bd.lit 2 (by decide)
  have hw := row_ok W hk
  have s2 := hw.s2
  have sP : 0 < (rowW o i k).s := by omega
  have hc := Cor.many_pos (corOf_ok W.hi)
  have hq := halfI_ok W.hi
  have cB : Bd 1700 (st / (corOf i).many) := sB.ediv hc
  have cv : ∀ c, 0 ≤ cvW (rowW o i k) v c ∧ cvW (rowW o i k) v c < (rowW o i k).s := fun c => ⟨Int.emod_nonneg _ (by omega), Int.emod_lt_of_pos _ sP⟩
  have cvB : ∀ c, Bd 1700 (cvW (rowW o i k) v c) := fun c => (hw.sB.emod sP).mono (by decide)
  have mn := Int.emod_nonneg st (show (corOf i).many ≠ 0 by omega)
  have er : st - st / (corOf i).many * (corOf i).many = st % (corOf i).many := by rw [Int.emod_def, Int.mul_comm]
  have pn := Int.mul_nonneg (Int.ediv_nonneg h0 (Int.le_of_lt hc)) (Int.le_of_lt hc)
  have rB : Bd 1700 (st - st / (corOf i).many * (corOf i).many) := sB.le (by omega) (by omega)
  refine s_seq (s_set (d := (rowW o i k).D) 5 nd (x_row k (x_v 0) (x_add x_int (x_v 1)) rfl hk)) ?_
  refine r_when (t_eq (x_rw 0 (x_v 5) x_int rfl rfl) x_int rfl) (fun hd => ⟨r_ret (x_f (fo_law_outer hh) hr (a_cons (x_v 5) (a_cons (x_v 2) (a_cons (x_v 3) (a_cons (x_v 4) a_nil)))) ⟨rowW o i k, v, st, way, rfl, by unfold seekI; rw [ifT hd], hw, vB, sB, wB⟩) sa, rfl⟩) (fun hd => ?_)
  have hn : (rowW o i k).sd ≠ 2 := of_decide_eq_false hd
  have es : seekI o i k v st way = seekW (halfI i) (corOf i).many ((corOf i).many * pr o) (rowW o i k) v st way := by unfold seekI; rw [ifF hd]
  rw [es]
  refine s_seq (s_set (d := .int (corOf i).many) 6 nd (x_w1 (x_v 0) x_int)) ?_
  refine s_seq (s_set (d := .int (st / (corOf i).many)) 7 nd (x_divS (x_v 3) (x_v 6) hc (W.hM.mono (by decide)))) ?_
  refine s_seq (s_set (d := optD (innerI (halfI i) (rowW o i k) (cvW (rowW o i k) v (st / (corOf i).many)) (st - st / (corOf i).many * (corOf i).many) way)) 8 nd (x_f (fo_law_core hh) hr (a_cons (x_v 0) (a_cons (x_v 5) (a_cons (x_mod (x_sub (x_v 2) (x_mul (x_v 7) (x_rw 3 (x_v 5) x_int rfl rfl) cB hw.eB (by decide))) (x_rw 2 (x_v 5) x_int rfl rfl) sP) (a_cons (x_sub (x_v 3) (x_mul (x_v 7) (x_v 6) cB W.hM (by decide))) (a_cons (x_v 4) a_nil))))) ⟨o, i, rowW o i k, _, _, way, rfl, rfl, W, hw, hn, cvB _, rB, wB⟩)) ?_
  cases hq1 : innerI (halfI i) (rowW o i k) (cvW (rowW o i k) v (st / (corOf i).many)) (st - st / (corOf i).many * (corOf i).many) way with
  | some x =>
    refine r_skip (t_is (t_isN (x_v 8)) rfl) ?_
    exact r_ret (x_is (x_add (x_mul (x_v 7) (x_v 6) cB W.hM (by decide)) (x_v 8)) (by unfold seekW; rw [hq1]; rfl)) sa
  | none =>
    have es2 : seekW (halfI i) (corOf i).many ((corOf i).many * pr o) (rowW o i k) v st way = seekN (halfI i) (corOf i).many ((corOf i).many * pr o) (rowW o i k) v way (st / (corOf i).many + way) := by unfold seekW; rw [hq1]
    rw [es2]
    have c2B : Bd 1703 (st / (corOf i).many + way) := cB.add wB
    obtain ⟨y, hy⟩ := FL k (cvW (rowW o i k) v (st / (corOf i).many + way)) way hk hn (cv _).1 (cv _).2 hway
    have bB : Bd 1700 (begW (corOf i).many way) := by
      unfold begW
      split
      · exact W.hM.le (by omega) (by omega)
      · rw [Int.mul_zero]; exact (Bd.lit (i := 0) 1).mono (by decide)
    by_cases hz : st / (corOf i).many + way < 0 ∨ (corOf i).many * pr o ≤ (st / (corOf i).many + way) * (corOf i).many
    · refine r_take (t_is (t_isN (x_v 8)) rfl) (s_seq (s_set (d := .int (st / (corOf i).many + way)) 7 nd (x_add (x_v 7) (x_v 4))) (r_take (t_is (t_W (w_or (t_lt (x_v 7) x_int) (fun h1 => w_or1 (t_ge (x_mul (x_v 7) (x_v 6) c2B W.hM (by decide)) (x_w2 (x_v 0) x_int))))) ?_) (r_ret (x_is x_non ?_) sa) rfl)) rfl
      · simpa using hz
      · unfold seekN; rw [if_pos hz]; rfl
    · refine r_takeN (ρ1 := [.any, .any, .any, .any, .any, .any, .val (.int (corOf i).many), .val (.int (st / (corOf i).many + way)), .val (.int y), .any]) (t_is (t_isN (x_v 8)) rfl) (s_seq (s_set (d := .int (st / (corOf i).many + way)) 7 nd (x_add (x_v 7) (x_v 4))) (r_skip (t_is (t_W (w_or (t_lt (x_v 7) x_int) (fun h1 => w_or1 (t_ge (x_mul (x_v 7) (x_v 6) c2B W.hM (by decide)) (x_w2 (x_v 0) x_int))))) ?_) (s_seq (s_set (d := .int (begW (corOf i).many way)) 9 nd (x_is (x_mul (x_sub (x_v 6) x_int) (x_blInt hh.b_int (x_eq (x_v 4) (x_neg x_int) rfl)) (W.hM.sub (Bd.lit (i := 1) 1)) (m := 1) (by split <;> exact Bd.lit 1 (by decide)) (by decide)) ?_)) (s_seq (s_set (d := .int y) 8 nd (x_f (fo_law_core hh) hr (a_cons (x_v 0) (a_cons (x_v 5) (a_cons (x_mod (x_sub (x_v 2) (x_mul (x_v 7) (x_rw 3 (x_v 5) x_int rfl rfl) c2B hw.eB (by decide))) (x_rw 2 (x_v 5) x_int rfl rfl) sP) (a_cons (x_v 9) (a_cons (x_v 4) a_nil))))) ⟨o, i, rowW o i k, _, _, way, rfl, by rw [show (v - (st / (corOf i).many + way) * (rowW o i k).e) % (rowW o i k).s = cvW (rowW o i k) v (st / (corOf i).many + way) from rfl, hy]; rfl, W, hw, hn, cvB _, bB, wB⟩)) (s_nil ⟨.inl rfl, .inl rfl, .inl rfl, .inl rfl, .inl rfl, .inl rfl, .inr rfl, .inr rfl, .inr rfl, .inl rfl, trivial⟩))))) ?_
      · simpa using hz
      · unfold begW; simp only [decide_eq_true_eq]
      · exact r_ret (x_is (x_add (x_mul (x_v 7) (x_v 6) c2B W.hM (by decide)) (x_v 8)) (by unfold seekN; rw [if_neg hz, hy]; rfl)) sa
end Sd

namespace Sd
/-! ### what a seek gives -/
/-- the least of st .. hi - 1 with P, none if there is none -/
def Nx (P : Int → Prop) (st hi : Int) (r : Option Int) : Prop := (∀ x, r = some x → st ≤ x ∧ x < hi ∧ P x) ∧ ∀ y, st ≤ y → y < hi → P y → ∃ x, r = some x ∧ x ≤ y
/-- the greatest of 0 .. st with P, none if there is none -/
def Ls (P : Int → Prop) (st : Int) (r : Option Int) : Prop := (∀ x, r = some x → 0 ≤ x ∧ x ≤ st ∧ P x) ∧ ∀ y, 0 ≤ y → y ≤ st → P y → ∃ x, r = some x ∧ y ≤ x
theorem Nx.un {P : Int → Prop} {st hi : Int} {r r' : Option Int} (a : Nx P st hi r) (b : Nx P st hi r') : r = r' := by
  cases r with
  | none =>
    cases r' with
    | none => rfl
    | some x => obtain ⟨h1, h2, h3⟩ := b.1 x rfl; obtain ⟨y, e, _⟩ := a.2 x h1 h2 h3; cases e
  | some x =>
    obtain ⟨h1, h2, h3⟩ := a.1 x rfl
    obtain ⟨y, e, hy⟩ := b.2 x h1 h2 h3
    obtain ⟨k1, k2, k3⟩ := b.1 y e
    obtain ⟨z, e2, hz⟩ := a.2 y k1 k2 k3
    cases e2
    rw [e, Int.le_antisymm hy hz]
theorem Ls.un {P : Int → Prop} {st : Int} {r r' : Option Int} (a : Ls P st r) (b : Ls P st r') : r = r' := by
  cases r with
  | none =>
    cases r' with
    | none => rfl
    | some x => obtain ⟨h1, h2, h3⟩ := b.1 x rfl; obtain ⟨y, e, _⟩ := a.2 x h1 h2 h3; cases e
  | some x =>
    obtain ⟨h1, h2, h3⟩ := a.1 x rfl
    obtain ⟨y, e, hy⟩ := b.2 x h1 h2 h3
    obtain ⟨k1, k2, k3⟩ := b.1 y e
    obtain ⟨z, e2, hz⟩ := a.2 y k1 k2 k3
    cases e2
    rw [e, Int.le_antisymm hz hy]
theorem Nx.iff {P Q : Int → Prop} {st hi : Int} {r : Option Int} (a : Nx P st hi r) (h : ∀ x, P x ↔ Q x) : Nx Q st hi r := ⟨fun x e => ⟨(a.1 x e).1, (a.1 x e).2.1, (h x).mp (a.1 x e).2.2⟩, fun y h1 h2 h3 => a.2 y h1 h2 ((h y).mpr h3)⟩
theorem Ls.iff {P Q : Int → Prop} {st : Int} {r : Option Int} (a : Ls P st r) (h : ∀ x, P x ↔ Q x) : Ls Q st r := ⟨fun x e => ⟨(a.1 x e).1, (a.1 x e).2.1, (h x).mp (a.1 x e).2.2⟩, fun y h1 h2 h3 => a.2 y h1 h2 ((h y).mpr h3)⟩
/-! ### an inner dial in the core -/
structure InOk (h : Hf) (w : Rw) (M : Int) (F : Int → Int) : Prop where
  sd : w.sd ≠ 2
  u0 : 0 < w.u
  s0 : 0 < w.s
  mon : MonF F (cEnd h w)
  cnt : ∀ st, 0 ≤ st → st < M → Cnt F (cEnd h w) st (cntW h w st)
  beg : ∀ n, 1 ≤ n → n ≤ cEnd h w - 1 → begsI h w.sd n = n + F n
  top : ∀ n, 0 ≤ n → n ≤ cEnd h w - 1 → n + F n < M
  full : w.s * w.u ≤ cEnd h w
theorem MonF.nn {F : Int → Int} {N : Int} (m : MonF F N) {n : Int} (h0 : 0 ≤ n) (h1 : n ≤ N - 1) : 0 ≤ F n := by have := m.m 0 n (Int.le_refl 0) h0 h1; rw [m.z] at this; exact this
theorem cNr_1 {h : Hf} {w : Rw} {v st : Int} : cNr h w v st 1 = nearN (cWv h w st) w.s v := by unfold cNr nearN; rw [Int.one_mul, Int.one_mul]
theorem cNr_b {h : Hf} {w : Rw} {v st : Int} : cNr h w v st (-1) = nearB (cWv h w st) w.s v := rfl
theorem cW2_1 {h : Hf} {w : Rw} {v st : Int} : cW2 h w v st 1 = cWv h w st + nearN (cWv h w st) w.s v := by unfold cW2; rw [cNr_1, Int.one_mul]
theorem cW2_b {h : Hf} {w : Rw} {v st : Int} : cW2 h w v st (-1) = cWv h w st - nearB (cWv h w st) w.s v := by unfold cW2; rw [cNr_b]; omega
section
variable {h : Hf} {w : Rw} {M : Int} {F : Int → Int} (I : InOk h w M F)
include I
theorem InOk.cW {st : Int} (h0 : 0 ≤ st) (h1 : st < M) : 0 ≤ cntW h w st ∧ cntW h w st ≤ cEnd h w - 1 ∧ 0 ≤ cWv h w st ∧ cWv h w st * w.u ≤ cntW h w st ∧ cntW h w st < cWv h w st * w.u + w.u := by
  obtain ⟨a, b, _, _⟩ := I.cnt st h0 h1
  have u0 := I.u0
  refine ⟨a, b, Int.ediv_nonneg a (by omega), (Int.le_ediv_iff_mul_le u0).mp (Int.le_refl _), (ediv_le_iff u0).mp (Int.le_refl _)⟩
theorem inner_next {v st : Int} (v0 : 0 ≤ v) (v1 : v < w.s) (h0 : 0 ≤ st) (h1 : st < M) : Nx (fun x => waveI (cWv h w x) w.s = v) st M (innerI h w v st 1) := by
  obtain ⟨c0, c1, q0, qc, qd⟩ := I.cW h0 h1
  obtain ⟨n0, n1, n2, n3⟩ := nearN_spec (q := cWv h w st) v0 v1
  have u0 := I.u0
  have hy : ∀ y, st ≤ y → y < M → waveI (cWv h w y) w.s = v → (cWv h w st + nearN (cWv h w st) w.s v) * w.u ≤ cntW h w y ∧ cntW h w y ≤ cEnd h w - 1 := fun y a b c => by
    obtain ⟨d0, d1, e0, e1, e2⟩ := I.cW (show 0 ≤ y by omega) b
    have hm : cntW h w st ≤ cntW h w y := (I.cnt st h0 h1).mono (I.cnt y (by omega) b) a
    have hq : cWv h w st ≤ cWv h w y := Int.ediv_le_ediv u0 hm
    have := Int.mul_le_mul_of_nonneg_right (n3 _ hq c) (show 0 ≤ w.u by omega)
    exact ⟨by omega, d1⟩
  unfold innerI
  rw [cNr_1, cW2_1]
  by_cases hn : nearN (cWv h w st) w.s v = 0
  · rw [if_pos hn]
    rw [hn, Int.add_zero] at n2
    exact ⟨fun x e => by cases e; exact ⟨Int.le_refl _, h1, n2⟩, fun y a b c => ⟨st, rfl, a⟩⟩
  rw [if_neg hn]
  by_cases hc : cWv h w st + nearN (cWv h w st) w.s v < 0 ∨ cEnd h w ≤ (cWv h w st + nearN (cWv h w st) w.s v) * w.u
  · rw [if_pos hc]
    refine ⟨fun x e => (by cases e), fun y a b c => ?_⟩
    have := hy y a b c
    omega
  rw [if_neg hc, if_pos rfl]
  have hq : (cWv h w st + 1) * w.u ≤ (cWv h w st + nearN (cWv h w st) w.s v) * w.u := Int.mul_le_mul_of_nonneg_right (by omega) (by omega)
  rw [Int.add_mul (cWv h w st) 1, Int.one_mul] at hq
  generalize hN : (cWv h w st + nearN (cWv h w st) w.s v) * w.u = n at *
  rw [I.beg n (by omega) (by omega)]
  have fn := I.mon.nn (n := n) (by omega) (by omega)
  have ht := I.top n (by omega) (by omega)
  refine ⟨fun x e => ?_, fun y a b c => ⟨_, rfl, ?_⟩⟩
  · have e := Option.some.inj e
    subst e
    have hi := (I.cnt st h0 h1).iff I.mon (j := n) (by omega) (by omega)
    refine ⟨by omega, ht, ?_⟩
    have ec : cntW h w (n + F n) = n := (I.cnt _ (by omega) ht).un (Cnt.at I.mon (by omega) (by omega))
    show waveI (cntW h w (n + F n) / w.u) w.s = v
    rw [ec, ← hN, Int.mul_ediv_cancel _ (by omega)]
    exact n2
  · have k := hy y a b c
    exact ((I.cnt y (by omega) b).iff I.mon (by omega) (by omega)).mp k.1
theorem inner_last {v st : Int} (v0 : 0 ≤ v) (v1 : v < w.s) (h0 : 0 ≤ st) (h1 : st < M) : Ls (fun x => waveI (cWv h w x) w.s = v) st (innerI h w v st (-1)) := by
  obtain ⟨c0, c1, q0, qc, qd⟩ := I.cW h0 h1
  obtain ⟨n0, n1, n2, n3⟩ := nearB_spec (q := cWv h w st) v0 v1
  have u0 := I.u0
  have hy : ∀ y, 0 ≤ y → y ≤ st → waveI (cWv h w y) w.s = v → 0 ≤ cWv h w y ∧ cWv h w y ≤ cWv h w st - nearB (cWv h w st) w.s v ∧ cntW h w y < (cWv h w st - nearB (cWv h w st) w.s v) * w.u + w.u := fun y a b c => by
    obtain ⟨d0, d1, e0, e1, e2⟩ := I.cW a (show y < M by omega)
    have hm : cntW h w y ≤ cntW h w st := (I.cnt y a (by omega)).mono (I.cnt st h0 h1) b
    have hq : cWv h w y ≤ cWv h w st := Int.ediv_le_ediv u0 hm
    have k := n3 _ hq c
    have := Int.mul_le_mul_of_nonneg_right k (show 0 ≤ w.u by omega)
    exact ⟨e0, k, by omega⟩
  unfold innerI
  rw [cNr_b, cW2_b]
  by_cases hn : nearB (cWv h w st) w.s v = 0
  · rw [if_pos hn]
    rw [hn, Int.sub_zero] at n2
    exact ⟨fun x e => by cases e; exact ⟨h0, Int.le_refl _, n2⟩, fun y a b c => ⟨st, rfl, b⟩⟩
  rw [if_neg hn]
  have hq : (cWv h w st - nearB (cWv h w st) w.s v + 1) * w.u ≤ cWv h w st * w.u := Int.mul_le_mul_of_nonneg_right (by omega) (by omega)
  rw [Int.add_mul (cWv h w st - nearB (cWv h w st) w.s v) 1, Int.one_mul] at hq
  by_cases hc : cWv h w st - nearB (cWv h w st) w.s v < 0 ∨ cEnd h w ≤ (cWv h w st - nearB (cWv h w st) w.s v) * w.u
  · rw [if_pos hc]
    refine ⟨fun x e => (by cases e), fun y a b c => ?_⟩
    have := hy y a b c
    omega
  rw [if_neg hc, if_neg (by decide)]
  have hp : 0 ≤ (cWv h w st - nearB (cWv h w st) w.s v) * w.u := Int.mul_nonneg (by omega) (by omega)
  generalize hN : (cWv h w st - nearB (cWv h w st) w.s v) * w.u = n at *
  rw [I.beg (n + w.u) (by omega) (by omega)]
  have fn := I.mon.nn (n := n + w.u) (by omega) (by omega)
  have hi := ((I.cnt st h0 h1).iff I.mon (j := n + w.u) (by omega) (by omega)).mp (by omega)
  refine ⟨fun x e => ?_, fun y a b c => ⟨_, rfl, ?_⟩⟩
  · have e := Option.some.inj e
    subst e
    refine ⟨by omega, by omega, ?_⟩
    have ec : cntW h w (n + w.u + F (n + w.u) - 1) = n + w.u - 1 := (I.cnt _ (by omega) (by omega)).un (Cnt.pre I.mon (by omega) (by omega))
    have eq : cWv h w (n + w.u + F (n + w.u) - 1) = cWv h w st - nearB (cWv h w st) w.s v := by
      unfold cWv
      rw [ec, Int.ediv_eq_iff_of_pos u0]
      unfold cWv at hN
      omega
    show waveI _ _ = v
    rw [eq]; exact n2
  · have k := hy y a b c
    have := (I.cnt y a (by omega)).iff I.mon (j := n + w.u) (by omega) (by omega)
    omega
/-- each value is shown in the core -/
theorem InOk.shown {v : Int} (v0 : 0 ≤ v) (v1 : v < w.s) : ∃ y, 0 ≤ y ∧ y < M ∧ waveI (cWv h w y) w.s = v := by
  have u0 := I.u0
  have hf := I.full
  have h1 : v * w.u + w.u ≤ w.s * w.u := by
    have := Int.mul_le_mul_of_nonneg_right (show v + 1 ≤ w.s by omega) (show 0 ≤ w.u by omega)
    rw [Int.add_mul, Int.one_mul] at this; exact this
  have h0 : 0 ≤ v * w.u := Int.mul_nonneg v0 (by omega)
  have fn := I.mon.nn (n := v * w.u) h0 (by omega)
  have ht := I.top (v * w.u) h0 (by omega)
  refine ⟨v * w.u + F (v * w.u), by omega, ht, ?_⟩
  have ec : cntW h w (v * w.u + F (v * w.u)) = v * w.u := (I.cnt _ (by omega) ht).un (Cnt.at I.mon h0 (by omega))
  unfold cWv
  rw [ec, Int.mul_ediv_cancel _ (by omega), wave_iff v0 v1, Int.emod_eq_of_lt v0 (by omega)]
  exact .inl rfl
theorem InOk.M0 : 0 < M := by
  have hf := I.full
  have := Int.mul_pos I.s0 I.u0
  have := I.top 0 (Int.le_refl 0) (by omega)
  have := I.mon.nn (n := 0) (Int.le_refl 0) (by omega)
  omega
theorem inner_full1 {v : Int} (v0 : 0 ≤ v) (v1 : v < w.s) : ∃ x, innerI h w v 0 1 = some x := by
  obtain ⟨y, a, b, c⟩ := I.shown v0 v1
  obtain ⟨x, e, _⟩ := (inner_next I v0 v1 (Int.le_refl 0) I.M0).2 y a b c
  exact ⟨x, e⟩
theorem inner_fullb {v : Int} (v0 : 0 ≤ v) (v1 : v < w.s) : ∃ x, innerI h w v (M - 1) (-1) = some x := by
  obtain ⟨y, a, b, c⟩ := I.shown v0 v1
  have := I.M0
  obtain ⟨x, e, _⟩ := (inner_last I v0 v1 (st := M - 1) (by omega) (by omega)).2 y a (by omega) c
  exact ⟨x, e⟩
/-! ### an inner dial in the nest -/
theorem shows_in (x : Int) : showsW h M w x = (waveI (cWv h w (x % M)) w.s + x / M * w.e) % w.s := by
  unfold showsW cWv
  rw [if_neg I.sd, Int.emod_def x M, Int.mul_comm M]
theorem shows_in_iff {v : Int} (v0 : 0 ≤ v) (v1 : v < w.s) (x : Int) : showsW h M w x = v ↔ waveI (cWv h w (x % M)) w.s = cvW w v (x / M) := by
  rw [shows_in I]
  obtain ⟨a, b⟩ := waveI_bd (x := cWv h w (x % M)) I.s0
  generalize waveI (cWv h w (x % M)) w.s = W at *
  unfold cvW
  constructor
  · intro e
    rw [← e, Int.emod_sub_emod, Int.add_sub_cancel, Int.emod_eq_of_lt a b]
  · intro e
    rw [e, Int.emod_add_emod, Int.sub_add_cancel, Int.emod_eq_of_lt v0 v1]
theorem cvW_bd (v c : Int) : 0 ≤ cvW w v c ∧ cvW w v c < w.s := ⟨Int.emod_nonneg _ (by have := I.s0; omega), Int.emod_lt_of_pos _ I.s0⟩
theorem seek_next {v st T : Int} (v0 : 0 ≤ v) (v1 : v < w.s) (h0 : 0 ≤ st) (h1 : st < M * T) : Nx (fun x => showsW h M w x = v) st (M * T) (seekW h M (M * T) w v st 1) := by
  have hM := I.M0
  obtain ⟨e, r0, r1⟩ := lap_rest st hM
  have er : st - st / M * M = st % M := by omega
  have c0 : 0 ≤ st / M := Int.ediv_nonneg h0 (by omega)
  have cT : st / M < T := by rw [Int.ediv_lt_iff_lt_mul hM, Int.mul_comm]; exact h1
  have cv := cvW_bd I v (st / M)
  have hN := inner_next I cv.1 cv.2 r0 r1
  have dm : ∀ c x, 0 ≤ x → x < M → (c * M + x) / M = c ∧ (c * M + x) % M = x := fun c x a b => by
    rw [Int.ediv_emod_unique hM, Int.mul_comm]; omega
  have cT1 : (st / M + 1) * M ≤ M * T := by rw [Int.mul_comm M]; exact Int.mul_le_mul_of_nonneg_right (by omega) (by omega)
  have c1 : (st / M + 1) * M = st / M * M + M := by rw [Int.add_mul, Int.one_mul]
  -- later copies
  have hl : ∀ y, st ≤ y → y < M * T → st / M < y / M → (st / M + 1) * M ≤ y := fun y a b c => by
    obtain ⟨f, g0, g1⟩ := lap_rest y hM
    have := Int.mul_le_mul_of_nonneg_right (show st / M + 1 ≤ y / M by omega) (show 0 ≤ M by omega)
    omega
  have hs : ∀ y, st ≤ y → y < M * T → ¬ st / M < y / M → y / M = st / M ∧ st % M ≤ y % M := fun y a b c => by
    have := Int.ediv_le_ediv hM a
    obtain ⟨f, g0, g1⟩ := lap_rest y hM
    have e2 : y / M = st / M := by omega
    rw [e2] at f
    exact ⟨e2, by omega⟩
  unfold seekW
  rw [er]
  cases hq : innerI h w (cvW w v (st / M)) (st % M) 1 with
  | some x =>
    dsimp only
    obtain ⟨x0, x1, x2⟩ := hN.1 x hq
    obtain ⟨d1, d2⟩ := dm (st / M) x (by omega) x1
    refine ⟨fun z ez => ?_, fun y a b c => ⟨_, rfl, ?_⟩⟩
    · cases ez
      refine ⟨by omega, by omega, ?_⟩
      exact (shows_in_iff I v0 v1 _).mpr (by rw [d1, d2]; exact x2)
    · by_cases hc : st / M < y / M
      · have := hl y a b hc; omega
      · obtain ⟨e2, e3⟩ := hs y a b hc
        obtain ⟨f, g0, g1⟩ := lap_rest y hM
        have := (shows_in_iff I v0 v1 y).mp c
        rw [e2] at this
        obtain ⟨x', ex, hx⟩ := hN.2 (y % M) e3 g1 this
        rw [hq] at ex; cases ex
        rw [e2] at f
        omega
  | none =>
    dsimp only
    have no : ∀ y, st ≤ y → y < M * T → showsW h M w y = v → st / M < y / M := fun y a b c => by
      by_cases hc : st / M < y / M
      · exact hc
      · obtain ⟨e2, e3⟩ := hs y a b hc
        obtain ⟨f, g0, g1⟩ := lap_rest y hM
        have := (shows_in_iff I v0 v1 y).mp c
        rw [e2] at this
        obtain ⟨x', ex, hx⟩ := hN.2 (y % M) e3 g1 this
        rw [hq] at ex; cases ex
    unfold seekN
    by_cases hz : st / M + 1 < 0 ∨ M * T ≤ (st / M + 1) * M
    · rw [if_pos hz]
      refine ⟨fun z ez => (by cases ez), fun y a b c => ?_⟩
      have := hl y a b (no y a b c)
      omega
    · rw [if_neg hz]
      have cv2 := cvW_bd I v (st / M + 1)
      obtain ⟨x, hx⟩ := inner_full1 I cv2.1 cv2.2
      have eb : begW M 1 = 0 := by unfold begW; rw [if_neg (by decide), Int.mul_zero]
      rw [eb, hx]
      dsimp only
      have hN2 := inner_next I cv2.1 cv2.2 (Int.le_refl 0) hM
      obtain ⟨x0, x1, x2⟩ := hN2.1 x hx
      obtain ⟨d1, d2⟩ := dm (st / M + 1) x (by omega) x1
      have hT2 : (st / M + 1 + 1) * M ≤ M * T := by
        have h3 : st / M + 1 < T := by
          have : (st / M + 1) * M < T * M := by rw [Int.mul_comm T]; omega
          exact Int.lt_of_mul_lt_mul_right this (by omega)
        rw [Int.mul_comm M]; exact Int.mul_le_mul_of_nonneg_right (by omega) (by omega)
      have hT3 : (st / M + 1 + 1) * M = (st / M + 1) * M + M := by rw [Int.add_mul, Int.one_mul]
      refine ⟨fun z ez => ?_, fun y a b c => ⟨_, rfl, ?_⟩⟩
      · cases ez
        refine ⟨by omega, by omega, ?_⟩
        exact (shows_in_iff I v0 v1 _).mpr (by rw [d1, d2]; exact x2)
      · have k := no y a b c
        obtain ⟨f, g0, g1⟩ := lap_rest y hM
        by_cases hc : y / M = st / M + 1
        · have := (shows_in_iff I v0 v1 y).mp c
          rw [hc] at this
          obtain ⟨x', ex, hx'⟩ := hN2.2 (y % M) g0 g1 this
          rw [hx] at ex; cases ex
          rw [hc] at f
          omega
        · have := Int.mul_le_mul_of_nonneg_right (show st / M + 1 + 1 ≤ y / M by omega) (show 0 ≤ M by omega)
          omega
theorem seek_last {v st T : Int} (v0 : 0 ≤ v) (v1 : v < w.s) (h0 : 0 ≤ st) (h1 : st < M * T) : Ls (fun x => showsW h M w x = v) st (seekW h M (M * T) w v st (-1)) := by
  have hM := I.M0
  obtain ⟨e, r0, r1⟩ := lap_rest st hM
  have er : st - st / M * M = st % M := by omega
  have c0 : 0 ≤ st / M := Int.ediv_nonneg h0 (by omega)
  have cv := cvW_bd I v (st / M)
  have hN := inner_last I cv.1 cv.2 r0 r1
  have dm : ∀ c x, 0 ≤ x → x < M → (c * M + x) / M = c ∧ (c * M + x) % M = x := fun c x a b => by
    rw [Int.ediv_emod_unique hM, Int.mul_comm]; omega
  have c1 : (st / M + -1) * M = st / M * M - M := by rw [Int.add_mul]; omega
  have hl : ∀ y, 0 ≤ y → y ≤ st → y / M < st / M → y < st / M * M := fun y a b c => by
    obtain ⟨f, g0, g1⟩ := lap_rest y hM
    have := Int.mul_le_mul_of_nonneg_right (show y / M + 1 ≤ st / M by omega) (show 0 ≤ M by omega)
    rw [Int.add_mul, Int.one_mul] at this
    omega
  have hs : ∀ y, 0 ≤ y → y ≤ st → ¬ y / M < st / M → y / M = st / M ∧ y % M ≤ st % M := fun y a b c => by
    have := Int.ediv_le_ediv hM b
    obtain ⟨f, g0, g1⟩ := lap_rest y hM
    have e2 : y / M = st / M := by omega
    rw [e2] at f
    exact ⟨e2, by omega⟩
  unfold seekW
  rw [er]
  have p0 := Int.mul_nonneg c0 (show 0 ≤ M by omega)
  cases hq : innerI h w (cvW w v (st / M)) (st % M) (-1) with
  | some x =>
    dsimp only
    obtain ⟨x0, x1, x2⟩ := hN.1 x hq
    obtain ⟨d1, d2⟩ := dm (st / M) x (by omega) (by omega)
    refine ⟨fun z ez => ?_, fun y a b c => ⟨_, rfl, ?_⟩⟩
    · cases ez
      refine ⟨by omega, by omega, ?_⟩
      exact (shows_in_iff I v0 v1 _).mpr (by rw [d1, d2]; exact x2)
    · by_cases hc : y / M < st / M
      · have := hl y a b hc; omega
      · obtain ⟨e2, e3⟩ := hs y a b hc
        obtain ⟨f, g0, g1⟩ := lap_rest y hM
        have := (shows_in_iff I v0 v1 y).mp c
        rw [e2] at this
        obtain ⟨x', ex, hx⟩ := hN.2 (y % M) g0 e3 this
        rw [hq] at ex; cases ex
        rw [e2] at f
        omega
  | none =>
    dsimp only
    have no : ∀ y, 0 ≤ y → y ≤ st → showsW h M w y = v → y / M < st / M := fun y a b c => by
      by_cases hc : y / M < st / M
      · exact hc
      · obtain ⟨e2, e3⟩ := hs y a b hc
        obtain ⟨f, g0, g1⟩ := lap_rest y hM
        have := (shows_in_iff I v0 v1 y).mp c
        rw [e2] at this
        obtain ⟨x', ex, hx⟩ := hN.2 (y % M) g0 e3 this
        rw [hq] at ex; cases ex
    unfold seekN
    by_cases hz : st / M + -1 < 0 ∨ M * T ≤ (st / M + -1) * M
    · rw [if_pos hz]
      refine ⟨fun z ez => (by cases ez), fun y a b c => ?_⟩
      have k := no y a b c
      have := Int.ediv_nonneg a (show 0 ≤ M by omega)
      omega
    · rw [if_neg hz]
      have cv2 := cvW_bd I v (st / M + -1)
      obtain ⟨x, hx⟩ := inner_fullb I cv2.1 cv2.2
      have eb : begW M (-1) = M - 1 := by unfold begW; rw [if_pos rfl, Int.mul_one]
      rw [eb, hx]
      dsimp only
      have hN2 := inner_last I cv2.1 cv2.2 (st := M - 1) (by omega) (by omega)
      obtain ⟨x0, x1, x2⟩ := hN2.1 x hx
      obtain ⟨d1, d2⟩ := dm (st / M + -1) x (by omega) (by omega)
      have p1 : 0 ≤ (st / M + -1) * M := Int.mul_nonneg (by omega) (by omega)
      refine ⟨fun z ez => ?_, fun y a b c => ⟨_, rfl, ?_⟩⟩
      · cases ez
        refine ⟨by omega, by omega, ?_⟩
        exact (shows_in_iff I v0 v1 _).mpr (by rw [d1, d2]; exact x2)
      · have k := no y a b c
        obtain ⟨f, g0, g1⟩ := lap_rest y hM
        by_cases hc : y / M = st / M + -1
        · have := (shows_in_iff I v0 v1 y).mp c
          rw [hc] at this
          obtain ⟨x', ex, hx'⟩ := hN2.2 (y % M) g0 (by omega) this
          rw [hx] at ex; cases ex
          rw [hc] at f
          omega
        · have := Int.mul_le_mul_of_nonneg_right (show y / M + 1 ≤ st / M + -1 by omega) (show 0 ≤ M by omega)
          rw [Int.add_mul (y / M), Int.one_mul] at this
          omega
end
end Sd

namespace Sd
/-! ### an outer dial: its turns -/
/-- how often it was turned by its q-th span -/
def dnO (s q : Int) : Int := q - q / s
def bgO (s d : Int) : Int := (d - 1) / (s - 1) * s + (d - 1) % (s - 1) + 1
theorem dnO_at {s : Int} (l r : Int) (r0 : 0 ≤ r) (r1 : r < s) : dnO s (l * s + r) = l * (s - 1) + r := by
  unfold dnO
  have e : (l * s + r) / s = l := by rw [Int.ediv_eq_iff_of_pos (by omega)]; omega
  rw [e, Int.mul_sub, Int.mul_one]; omega
theorem dnO_mono {s q q' : Int} (hs : 0 < s) (h : q ≤ q') : dnO s q ≤ dnO s q' := by
  obtain ⟨e, r0, r1⟩ := lap_rest q hs
  obtain ⟨e', r0', r1'⟩ := lap_rest q' hs
  have hl := Int.ediv_le_ediv hs h
  rw [e, e', dnO_at _ _ r0 r1, dnO_at _ _ r0' r1']
  by_cases hq : q / s = q' / s
  · rw [hq] at e ⊢; omega
  · have := Int.mul_le_mul_of_nonneg_right (show q / s + 1 ≤ q' / s by omega) (show 0 ≤ s - 1 by omega)
    rw [Int.add_mul, Int.one_mul] at this
    omega
theorem dnO_bg {s d : Int} (hs : 2 ≤ s) : dnO s (bgO s d) = d ∧ dnO s (bgO s d - 1) = d - 1 := by
  obtain ⟨e, r0, r1⟩ := lap_rest (d - 1) (show 0 < s - 1 by omega)
  unfold bgO
  rw [Int.add_assoc, dnO_at _ _ (by omega) (by omega), show (d - 1) / (s - 1) * s + ((d - 1) % (s - 1) + 1) - 1 = (d - 1) / (s - 1) * s + (d - 1) % (s - 1) by omega, dnO_at _ _ r0 (by omega)]
  omega
theorem bgO_iff {s d q : Int} (hs : 2 ≤ s) : d ≤ dnO s q ↔ bgO s d ≤ q := by
  obtain ⟨a, b⟩ := dnO_bg (d := d) hs
  constructor
  · intro h
    by_cases hq : bgO s d ≤ q
    · exact hq
    · have := dnO_mono (s := s) (by omega) (show q ≤ bgO s d - 1 by omega); omega
  · intro h
    have := dnO_mono (s := s) (by omega) h; omega
theorem dnO_nn {s q : Int} (hs : 0 < s) (h : 0 ≤ q) : 0 ≤ dnO s q := by
  have := dnO_mono hs h
  have e : dnO s 0 = 0 := by unfold dnO; rw [Int.zero_ediv]; rfl
  omega
theorem dnO_topE {s K : Int} (hs : 2 ≤ s) : dnO s (s * K - 1) = (s - 1) * K := by
  have e : s * K - 1 = (K - 1) * s + (s - 1) := by rw [Int.sub_mul, Int.mul_comm K, Int.one_mul]; omega
  rw [e, dnO_at _ _ (by omega) (by omega), Int.sub_mul K, Int.mul_comm K, Int.one_mul]; omega
theorem dnO_top {s K q : Int} (hs : 2 ≤ s) (h : q < s * K) : dnO s q ≤ (s - 1) * K := by
  have := dnO_mono (s := s) (by omega) (show q ≤ s * K - 1 by omega)
  rw [dnO_topE hs] at this; exact this
structure OuOk (w : Rw) (K : Int) : Prop where
  sd : w.sd = 2
  u0 : 0 < w.u
  s2 : 2 ≤ w.s
  e : w.e = (w.s - 1) * K
section
variable {h : Hf} {M K : Int} {w : Rw} (O : OuOk w K)
include O
theorem shows_out (x : Int) : showsW h M w x = dnO w.s (x / w.u) % w.s := by
  have := O.u0
  unfold showsW dnO
  rw [if_pos O.sd, Int.ediv_ediv_of_nonneg (by omega)]
theorem oDn_eq (x : Int) : oDn w x = dnO w.s (x / w.u) := by
  have := O.u0
  unfold oDn dnO
  rw [Int.ediv_ediv_of_nonneg (by omega)]
theorem OuOk.qK {x : Int} (hx : x < w.u * w.s * K) : x / w.u < w.s * K := by
  rw [Int.ediv_lt_iff_lt_mul O.u0, Int.mul_comm (w.s * K), ← Int.mul_assoc]; exact hx
theorem outer_next {v st : Int} (v0 : 0 ≤ v) (v1 : v < w.s) (h0 : 0 ≤ st) (h1 : st < w.u * w.s * K) : Nx (fun x => showsW h M w x = v) st (w.u * w.s * K) (outerI w v st 1) := by
  have u0 := O.u0
  have s2 := O.s2
  have qK := O.qK h1
  have dq := oDn_eq O st
  have f0 := Int.emod_nonneg (v - dnO w.s (st / w.u)) (show w.s ≠ 0 by omega)
  have f1 := Int.emod_lt_of_pos (v - dnO w.s (st / w.u)) (show 0 < w.s by omega)
  have fe : (dnO w.s (st / w.u) + (v - dnO w.s (st / w.u)) % w.s) % w.s = v := by rw [Int.add_emod_emod, show dnO w.s (st / w.u) + (v - dnO w.s (st / w.u)) = v by omega, Int.emod_eq_of_lt v0 v1]
  have hy : ∀ y, st ≤ y → showsW h M w y = v → dnO w.s (st / w.u) + (v - dnO w.s (st / w.u)) % w.s ≤ dnO w.s (y / w.u) := fun y a c => by
    rw [shows_out O] at c
    have hm := dnO_mono (s := w.s) (by omega) (Int.ediv_le_ediv u0 a)
    have c0 : (dnO w.s (y / w.u) - dnO w.s (st / w.u)) % w.s ≤ dnO w.s (y / w.u) - dnO w.s (st / w.u) := emod_le_self (by omega) (by omega)
    have : (v - dnO w.s (st / w.u)) % w.s = (dnO w.s (y / w.u) - dnO w.s (st / w.u)) % w.s := by rw [← c, Int.emod_sub_emod]
    omega
  have eF : oFu w v st 1 = (v - dnO w.s (st / w.u)) % w.s := by unfold oFu; rw [dq, Int.one_mul]
  have eD : oD2 w v st 1 = dnO w.s (st / w.u) + (v - dnO w.s (st / w.u)) % w.s := by unfold oD2; rw [dq, eF, Int.one_mul]
  have eT : oTn w v st 1 = oD2 w v st 1 - 1 := by unfold oTn; omega
  have eP : oPl w v st 1 = w.u * bgO w.s (oD2 w v st 1) := by unfold oPl bgO; rw [eT]; omega
  have d0 := dnO_nn (s := w.s) (by omega) (Int.ediv_nonneg h0 (show 0 ≤ w.u by omega))
  unfold outerI
  rw [eF, eP, eD, O.e]
  generalize hf : (v - dnO w.s (st / w.u)) % w.s = f at *
  by_cases hn : f = 0
  · rw [if_pos hn]
    rw [hn, Int.add_zero] at fe
    exact ⟨fun x e => by cases e; exact ⟨Int.le_refl _, h1, (shows_out O _).trans fe⟩, fun y a b c => ⟨st, rfl, a⟩⟩
  rw [if_neg hn]
  by_cases hc : dnO w.s (st / w.u) + f < 0 ∨ (w.s - 1) * K < dnO w.s (st / w.u) + f
  · rw [if_pos hc]
    refine ⟨fun x e => (by cases e), fun y a b c => ?_⟩
    have := hy y a c
    have := dnO_top (K := K) s2 (O.qK b)
    omega
  rw [if_neg hc]
  obtain ⟨b1, b2⟩ := dnO_bg (d := dnO w.s (st / w.u) + f) s2
  have hlt : st / w.u + 1 ≤ bgO w.s (dnO w.s (st / w.u) + f) := by
    by_cases hq : bgO w.s (dnO w.s (st / w.u) + f) ≤ st / w.u
    · have := (bgO_iff s2).mpr hq; omega
    · omega
  have htop : bgO w.s (dnO w.s (st / w.u) + f) ≤ w.s * K - 1 := (bgO_iff s2).mp (by rw [dnO_topE s2]; omega)
  generalize bgO w.s (dnO w.s (st / w.u) + f) = g at *
  have g1 := Int.mul_le_mul_of_nonneg_left hlt (show 0 ≤ w.u by omega)
  have g2 := Int.mul_le_mul_of_nonneg_left htop (show 0 ≤ w.u by omega)
  have g3 : st < w.u * (st / w.u + 1) := by
    have := (ediv_le_iff u0 (c := st)).mp (Int.le_refl _)
    rw [Int.mul_add, Int.mul_one, Int.mul_comm]; exact this
  have g4 : w.u * (w.s * K - 1) = w.u * w.s * K - w.u := by rw [Int.mul_sub, Int.mul_one, Int.mul_assoc]
  refine ⟨fun x e => ?_, fun y a b c => ⟨_, rfl, ?_⟩⟩
  · cases e
    refine ⟨by omega, by omega, ?_⟩
    show showsW h M w _ = v
    rw [shows_out O, Int.mul_ediv_cancel_left _ (by omega), b1]; exact fe
  · have k := hy y a c
    have k2 : g ≤ y / w.u := by
      by_cases hq : g ≤ y / w.u
      · exact hq
      · have := dnO_mono (s := w.s) (by omega) (show y / w.u ≤ g - 1 by omega); omega
    have := (Int.le_ediv_iff_mul_le u0).mp k2
    rw [Int.mul_comm]; exact this
theorem outer_last {v st : Int} (v0 : 0 ≤ v) (v1 : v < w.s) (h0 : 0 ≤ st) (h1 : st < w.u * w.s * K) : Ls (fun x => showsW h M w x = v) st (outerI w v st (-1)) := by
  have u0 := O.u0
  have s2 := O.s2
  have qK := O.qK h1
  have dq := oDn_eq O st
  have f0 := Int.emod_nonneg (dnO w.s (st / w.u) - v) (show w.s ≠ 0 by omega)
  have f1 := Int.emod_lt_of_pos (dnO w.s (st / w.u) - v) (show 0 < w.s by omega)
  have fe : (dnO w.s (st / w.u) - (dnO w.s (st / w.u) - v) % w.s) % w.s = v := by rw [Int.sub_emod_emod, show dnO w.s (st / w.u) - (dnO w.s (st / w.u) - v) = v by omega, Int.emod_eq_of_lt v0 v1]
  have hy : ∀ y, y ≤ st → showsW h M w y = v → dnO w.s (y / w.u) ≤ dnO w.s (st / w.u) - (dnO w.s (st / w.u) - v) % w.s := fun y a c => by
    rw [shows_out O] at c
    have hm := dnO_mono (s := w.s) (by omega) (Int.ediv_le_ediv u0 a)
    have c0 : (dnO w.s (st / w.u) - dnO w.s (y / w.u)) % w.s ≤ dnO w.s (st / w.u) - dnO w.s (y / w.u) := emod_le_self (by omega) (by omega)
    have : (dnO w.s (st / w.u) - v) % w.s = (dnO w.s (st / w.u) - dnO w.s (y / w.u)) % w.s := by rw [← c, Int.sub_emod_emod]
    omega
  have eF : oFu w v st (-1) = (dnO w.s (st / w.u) - v) % w.s := by unfold oFu; rw [dq]; congr 1; omega
  have eD : oD2 w v st (-1) = dnO w.s (st / w.u) - (dnO w.s (st / w.u) - v) % w.s := by unfold oD2; rw [dq, eF]; omega
  have eT : oTn w v st (-1) = oD2 w v st (-1) + 1 - 1 := by unfold oTn; omega
  have eP : oPl w v st (-1) = w.u * bgO w.s (oD2 w v st (-1) + 1) - 1 := by unfold oPl bgO; rw [eT]; omega
  have d0 := dnO_nn (s := w.s) (by omega) (Int.ediv_nonneg h0 (show 0 ≤ w.u by omega))
  unfold outerI
  rw [eF, eP, eD, O.e]
  generalize hf : (dnO w.s (st / w.u) - v) % w.s = f at *
  by_cases hn : f = 0
  · rw [if_pos hn]
    rw [hn, Int.sub_zero] at fe
    exact ⟨fun x e => by cases e; exact ⟨h0, Int.le_refl _, (shows_out O _).trans fe⟩, fun y a b c => ⟨st, rfl, b⟩⟩
  rw [if_neg hn]
  have dt := dnO_top (K := K) s2 qK
  by_cases hc : dnO w.s (st / w.u) - f < 0 ∨ (w.s - 1) * K < dnO w.s (st / w.u) - f
  · rw [if_pos hc]
    refine ⟨fun x e => (by cases e), fun y a b c => ?_⟩
    have := hy y b c
    have := dnO_nn (s := w.s) (by omega) (Int.ediv_nonneg a (show 0 ≤ w.u by omega))
    omega
  rw [if_neg hc]
  obtain ⟨b1, b2⟩ := dnO_bg (d := dnO w.s (st / w.u) - f + 1) s2
  have hle : bgO w.s (dnO w.s (st / w.u) - f + 1) ≤ st / w.u := (bgO_iff s2).mp (by omega)
  have hpos : 1 ≤ bgO w.s (dnO w.s (st / w.u) - f + 1) := by
    by_cases hq : bgO w.s (dnO w.s (st / w.u) - f + 1) ≤ 0
    · have := (bgO_iff s2).mpr hq
      have e : dnO w.s 0 = 0 := by unfold dnO; rw [Int.zero_ediv]; rfl
      omega
    · omega
  generalize bgO w.s (dnO w.s (st / w.u) - f + 1) = g at *
  have g1 := (Int.le_ediv_iff_mul_le u0).mp hle
  rw [Int.mul_comm] at g1
  have g2 := Int.mul_le_mul_of_nonneg_left hpos (show 0 ≤ w.u by omega)
  refine ⟨fun x e => ?_, fun y a b c => ⟨_, rfl, ?_⟩⟩
  · cases e
    refine ⟨by omega, by omega, ?_⟩
    show showsW h M w _ = v
    have eq : (w.u * g - 1) / w.u = g - 1 := by rw [Int.ediv_eq_iff_of_pos u0, Int.sub_mul, Int.mul_comm g]; omega
    rw [shows_out O, eq, b2, show dnO w.s (st / w.u) - f + 1 - 1 = dnO w.s (st / w.u) - f by omega]; exact fe
  · have k := hy y b c
    have k2 : y / w.u < g := by
      by_cases hq : g ≤ y / w.u
      · have := dnO_mono (s := w.s) (by omega) hq; omega
      · omega
    have := (Int.ediv_lt_iff_lt_mul u0).mp k2
    rw [Int.mul_comm]; omega
/-! ### the same, by begins in a lap -/
def begO (u s v l : Int) : Int := (l * s + (v + l) % s) * u
def pOn (u s v st tot : Int) : Option Int :=
  if st < begO u s v (st / (u * s)) + u then some (max st (begO u s v (st / (u * s))))
  else if begO u s v (st / (u * s) + 1) < tot then some (begO u s v (st / (u * s) + 1)) else none
def pBk (u s v st : Int) : Option Int :=
  if begO u s v (st / (u * s)) ≤ st then some (min st (begO u s v (st / (u * s)) + u - 1))
  else if st / (u * s) = 0 then none else some (begO u s v (st / (u * s) - 1) + u - 1)
omit O in
theorem ou_iff {s v l r : Int} (v0 : 0 ≤ v) (v1 : v < s) (r0 : 0 ≤ r) (r1 : r < s) : dnO s (l * s + r) % s = v ↔ r = (v + l) % s := by
  rw [dnO_at _ _ r0 r1]
  have e : l * (s - 1) + r = (r - l) + s * l := by rw [Int.mul_sub, Int.mul_one, Int.mul_comm s]; omega
  rw [e, Int.add_mul_emod_self_left]
  constructor
  · intro z
    rw [← z, Int.emod_add_emod, Int.sub_add_cancel, Int.emod_eq_of_lt r0 r1]
  · intro z
    rw [z, Int.emod_sub_emod, Int.add_sub_cancel, Int.emod_eq_of_lt v0 v1]
theorem OuOk.row {y v : Int} (v0 : 0 ≤ v) (v1 : v < w.s) : showsW h M w y = v ↔ y / w.u % w.s = (v + y / w.u / w.s) % w.s := by
  have s2 := O.s2
  obtain ⟨e, r0, r1⟩ := lap_rest (y / w.u) (show 0 < w.s by omega)
  rw [shows_out O]
  have := ou_iff (l := y / w.u / w.s) v0 v1 r0 r1
  rw [← e] at this
  exact this
theorem pOn_next {v st : Int} (v0 : 0 ≤ v) (v1 : v < w.s) (h0 : 0 ≤ st) (h1 : st < w.u * w.s * K) : Nx (fun x => showsW h M w x = v) st (w.u * w.s * K) (pOn w.u w.s v st (w.u * w.s * K)) := by
  have u0 := O.u0
  have s2 := O.s2
  have sP : 0 < w.s := by omega
  have el : st / (w.u * w.s) = st / w.u / w.s := by rw [Int.ediv_ediv_of_nonneg (by omega)]
  obtain ⟨e, r0, r1⟩ := lap_rest (st / w.u) sP
  have lK : st / w.u / w.s < K := by rw [Int.ediv_lt_iff_lt_mul sP, Int.mul_comm]; exact O.qK h1
  have t0 := Int.emod_nonneg (v + st / w.u / w.s) (show w.s ≠ 0 by omega)
  have t1 := Int.emod_lt_of_pos (v + st / w.u / w.s) sP
  have n0 := Int.emod_nonneg (v + (st / w.u / w.s + 1)) (show w.s ≠ 0 by omega)
  have n1 := Int.emod_lt_of_pos (v + (st / w.u / w.s + 1)) sP
  have c1 : (st / w.u / w.s + 1) * w.s = st / w.u / w.s * w.s + w.s := by rw [Int.add_mul, Int.one_mul]
  have cK := Int.mul_le_mul_of_nonneg_right (show st / w.u / w.s + 1 ≤ K by omega) (show 0 ≤ w.s by omega)
  have eK : K * w.s * w.u = w.u * w.s * K := by rw [Int.mul_assoc, Int.mul_comm, Int.mul_comm w.s w.u]
  have sh : ∀ l r x, 0 ≤ r → r < w.s → x / w.u = l * w.s + r → r = (v + l) % w.s → showsW h M w x = v := fun l r x a b c d => by
    rw [shows_out O, c]; exact (ou_iff v0 v1 a b).mpr d
  have yl : ∀ y, st ≤ y → showsW h M w y = v → ∃ l r, y / w.u = l * w.s + r ∧ 0 ≤ r ∧ r < w.s ∧ r = (v + l) % w.s ∧ st / w.u / w.s ≤ l ∧ st / w.u ≤ y / w.u := fun y a b => by
    obtain ⟨f, g0, g1⟩ := lap_rest (y / w.u) sP
    have q := Int.ediv_le_ediv u0 a
    exact ⟨_, _, f, g0, g1, (O.row v0 v1).mp b, Int.ediv_le_ediv sP q, q⟩
  unfold pOn begO
  rw [el]
  generalize st / w.u / w.s = l at *
  generalize ht : (v + l) % w.s = t at *
  by_cases hc : st < (l * w.s + t) * w.u + w.u
  · rw [if_pos hc]
    have hc2 := (ediv_le_iff u0).mpr hc
    have eq : max st ((l * w.s + t) * w.u) / w.u = l * w.s + t := by
      rw [Int.ediv_eq_iff_of_pos u0]; omega
    have hb : (l * w.s + t + 1) * w.u ≤ K * w.s * w.u := Int.mul_le_mul_of_nonneg_right (by omega) (by omega)
    rw [Int.add_mul (l * w.s + t), Int.one_mul] at hb
    refine ⟨fun x ex => ?_, fun y a b c => ⟨_, rfl, ?_⟩⟩
    · cases ex
      exact ⟨by omega, by omega, sh l t _ t0 t1 eq ht.symm⟩
    · obtain ⟨l', r', f, g0, g1, g2, g3, g4⟩ := yl y a c
      have : l * w.s + t ≤ y / w.u := by
        by_cases hl : l' = l
        · subst hl; omega
        · have := Int.mul_le_mul_of_nonneg_right (show l + 1 ≤ l' by omega) (show 0 ≤ w.s by omega)
          omega
      have := (Int.le_ediv_iff_mul_le u0).mp this
      omega
  · rw [if_neg hc]
    have hc2 : ¬ st / w.u ≤ l * w.s + t := fun z => hc ((ediv_le_iff u0).mp z)
    generalize hn : (v + (l + 1)) % w.s = n at *
    have hy : ∀ y, st ≤ y → showsW h M w y = v → ((l + 1) * w.s + n) * w.u ≤ y := fun y a c => by
      obtain ⟨l', r', f, g0, g1, g2, g3, g4⟩ := yl y a c
      have : (l + 1) * w.s + n ≤ y / w.u := by
        by_cases hl : l' = l
        · subst hl; omega
        · by_cases hl2 : l' = l + 1
          · subst hl2; omega
          · have := Int.mul_le_mul_of_nonneg_right (show l + 1 + 1 ≤ l' by omega) (show 0 ≤ w.s by omega)
            rw [Int.add_mul (l + 1), Int.one_mul] at this
            omega
      exact (Int.le_ediv_iff_mul_le u0).mp this
    by_cases h2 : ((l + 1) * w.s + n) * w.u < w.u * w.s * K
    · rw [if_pos h2]
      refine ⟨fun x ex => ?_, fun y a b c => ⟨_, rfl, hy y a c⟩⟩
      cases ex
      refine ⟨?_, h2, sh (l + 1) n _ n0 n1 (Int.mul_ediv_cancel _ (by omega)) hn.symm⟩
      have := (ediv_le_iff u0 (q := (l + 1) * w.s + n - 1)).mp (show st / w.u ≤ _ by omega)
      rw [Int.sub_mul ((l + 1) * w.s + n), Int.one_mul] at this
      omega
    · rw [if_neg h2]
      refine ⟨fun x ex => (by cases ex), fun y a b c => ?_⟩
      have := hy y a c
      omega
theorem pBk_last {v st : Int} (v0 : 0 ≤ v) (v1 : v < w.s) (h0 : 0 ≤ st) : Ls (fun x => showsW h M w x = v) st (pBk w.u w.s v st) := by
  have u0 := O.u0
  have s2 := O.s2
  have sP : 0 < w.s := by omega
  have el : st / (w.u * w.s) = st / w.u / w.s := by rw [Int.ediv_ediv_of_nonneg (by omega)]
  obtain ⟨e, r0, r1⟩ := lap_rest (st / w.u) sP
  have q0 : 0 ≤ st / w.u := Int.ediv_nonneg h0 (by omega)
  have l0 : 0 ≤ st / w.u / w.s := Int.ediv_nonneg q0 (by omega)
  have t0 := Int.emod_nonneg (v + st / w.u / w.s) (show w.s ≠ 0 by omega)
  have t1 := Int.emod_lt_of_pos (v + st / w.u / w.s) sP
  have n0 := Int.emod_nonneg (v + (st / w.u / w.s - 1)) (show w.s ≠ 0 by omega)
  have n1 := Int.emod_lt_of_pos (v + (st / w.u / w.s - 1)) sP
  have c1 : (st / w.u / w.s - 1) * w.s = st / w.u / w.s * w.s - w.s := by rw [Int.sub_mul, Int.one_mul]
  have sh : ∀ l r x, 0 ≤ r → r < w.s → x / w.u = l * w.s + r → r = (v + l) % w.s → showsW h M w x = v := fun l r x a b c d => by
    rw [shows_out O, c]; exact (ou_iff v0 v1 a b).mpr d
  have yl : ∀ y, 0 ≤ y → y ≤ st → showsW h M w y = v → ∃ l r, y / w.u = l * w.s + r ∧ 0 ≤ r ∧ r < w.s ∧ r = (v + l) % w.s ∧ 0 ≤ l ∧ l ≤ st / w.u / w.s ∧ y / w.u ≤ st / w.u := fun y p a b => by
    obtain ⟨f, g0, g1⟩ := lap_rest (y / w.u) sP
    have q := Int.ediv_le_ediv u0 a
    exact ⟨_, _, f, g0, g1, (O.row v0 v1).mp b, Int.ediv_nonneg (Int.ediv_nonneg p (by omega)) (by omega), Int.ediv_le_ediv sP q, q⟩
  have m0 := Int.mul_nonneg l0 (show 0 ≤ w.s by omega)
  unfold pBk begO
  rw [el]
  generalize st / w.u / w.s = l at *
  generalize ht : (v + l) % w.s = t at *
  by_cases hc : (l * w.s + t) * w.u ≤ st
  · rw [if_pos hc]
    have hc2 := (Int.le_ediv_iff_mul_le u0).mpr hc
    have eq : min st ((l * w.s + t) * w.u + w.u - 1) / w.u = l * w.s + t := by
      rw [Int.ediv_eq_iff_of_pos u0]; omega
    have p0 : 0 ≤ (l * w.s + t) * w.u := Int.mul_nonneg (by omega) (by omega)
    refine ⟨fun x ex => ?_, fun y a b c => ⟨_, rfl, ?_⟩⟩
    · cases ex
      exact ⟨by omega, by omega, sh l t _ t0 t1 eq ht.symm⟩
    · obtain ⟨l', r', f, g0, g1, g2, p, g3, g4⟩ := yl y a b c
      have : y / w.u ≤ l * w.s + t := by
        by_cases hl : l' = l
        · subst hl; omega
        · have := Int.mul_le_mul_of_nonneg_right (show l' + 1 ≤ l by omega) (show 0 ≤ w.s by omega)
          rw [Int.add_mul l', Int.one_mul] at this
          omega
      have := (ediv_le_iff u0).mp this
      omega
  · rw [if_neg hc]
    have hc2 : ¬ l * w.s + t ≤ st / w.u := fun z => hc ((Int.le_ediv_iff_mul_le u0).mp z)
    by_cases h2 : l = 0
    · rw [if_pos h2]
      refine ⟨fun x ex => (by cases ex), fun y a b c => ?_⟩
      obtain ⟨l', r', f, g0, g1, g2, p, g3, g4⟩ := yl y a b c
      have : l' = l := by omega
      subst this; omega
    · rw [if_neg h2]
      have p1 : 0 ≤ (l - 1) * w.s := Int.mul_nonneg (by omega) (by omega)
      generalize hn : (v + (l - 1)) % w.s = n at *
      have p0 : 0 ≤ ((l - 1) * w.s + n) * w.u := Int.mul_nonneg (by omega) (by omega)
      refine ⟨fun x ex => ?_, fun y a b c => ⟨_, rfl, ?_⟩⟩
      · cases ex
        have k := (Int.le_ediv_iff_mul_le u0 (a := (l - 1) * w.s + n + 1)).mp (show _ ≤ st / w.u by omega)
        rw [Int.add_mul ((l - 1) * w.s + n), Int.one_mul] at k
        refine ⟨by omega, by omega, sh (l - 1) n _ n0 n1 ?_ hn.symm⟩
        rw [Int.ediv_eq_iff_of_pos u0]; omega
      · obtain ⟨l', r', f, g0, g1, g2, p, g3, g4⟩ := yl y a b c
        have : y / w.u ≤ (l - 1) * w.s + n := by
          by_cases hl : l' = l
          · subst hl; omega
          · by_cases hl2 : l' = l - 1
            · subst hl2; omega
            · have := Int.mul_le_mul_of_nonneg_right (show l' + 1 ≤ l - 1 by omega) (show 0 ≤ w.s by omega)
              rw [Int.add_mul l', Int.one_mul] at this
              omega
        have := (ediv_le_iff u0).mp this
        omega
end
end Sd
namespace Sd
section
variable {h : Hf} {w : Rw} {M : Int} {F : Int → Int} (I : InOk h w M F)
include I
theorem innerI_1 {v st : Int} (v0 : 0 ≤ v) (v1 : v < w.s) (h0 : 0 ≤ st) (h1 : st < M) : innerI h w v st 1 = match nextC w.s w.u v (cntW h w st) (cEnd h w) with
    | none => none
    | some c => if c = cntW h w st then some st else some (begsI h w.sd c) := by
  obtain ⟨c0, c1, q0, qc, qd⟩ := I.cW h0 h1
  obtain ⟨n0, n1, n2, n3⟩ := nearN_spec (q := cWv h w st) v0 v1
  have u0 := I.u0
  unfold innerI nextC
  rw [cNr_1, cW2_1, if_pos rfl]
  change _ = match (if (cWv h w st + nearN (cWv h w st) w.s v) * w.u < cEnd h w then some (max (cntW h w st) ((cWv h w st + nearN (cWv h w st) w.s v) * w.u)) else none) with
    | none => none
    | some c => if c = cntW h w st then some st else some (begsI h w.sd c)
  by_cases hn : nearN (cWv h w st) w.s v = 0
  · rw [hn, Int.add_zero, if_pos rfl, if_pos (by omega), Int.max_eq_left qc]
    dsimp only
    rw [if_pos rfl]
  rw [if_neg hn]
  have hq : (cWv h w st + 1) * w.u ≤ (cWv h w st + nearN (cWv h w st) w.s v) * w.u := Int.mul_le_mul_of_nonneg_right (by omega) (by omega)
  rw [Int.add_mul (cWv h w st) 1, Int.one_mul] at hq
  by_cases hc : (cWv h w st + nearN (cWv h w st) w.s v) * w.u < cEnd h w
  · rw [if_pos hc, if_neg (by omega), Int.max_eq_right (by omega)]
    dsimp only
    rw [if_neg (by omega)]
  · rw [if_neg hc, if_pos (by omega)]
theorem innerI_b {v st : Int} (v0 : 0 ≤ v) (v1 : v < w.s) (h0 : 0 ≤ st) (h1 : st < M) : innerI h w v st (-1) = match lastC w.s w.u v (cntW h w st) with
    | none => none
    | some c => if c = cntW h w st then some st else some (begsI h w.sd (c + 1) - 1) := by
  obtain ⟨c0, c1, q0, qc, qd⟩ := I.cW h0 h1
  obtain ⟨n0, n1, n2, n3⟩ := nearB_spec (q := cWv h w st) v0 v1
  have u0 := I.u0
  unfold innerI lastC
  rw [cNr_b, cW2_b, if_neg (show ¬ (-1 : Int) = 1 by decide)]
  change _ = match (if cWv h w st - nearB (cWv h w st) w.s v < 0 then none else some (min (cntW h w st) ((cWv h w st - nearB (cWv h w st) w.s v) * w.u + w.u - 1))) with
    | none => none
    | some c => if c = cntW h w st then some st else some (begsI h w.sd (c + 1) - 1)
  by_cases hn : nearB (cWv h w st) w.s v = 0
  · rw [hn, Int.sub_zero, if_pos rfl, if_neg (by omega), Int.min_eq_left (by omega)]
    dsimp only
    rw [if_pos rfl]
  rw [if_neg hn]
  have hq : (cWv h w st - nearB (cWv h w st) w.s v + 1) * w.u ≤ cWv h w st * w.u := Int.mul_le_mul_of_nonneg_right (by omega) (by omega)
  rw [Int.add_mul (cWv h w st - nearB (cWv h w st) w.s v) 1, Int.one_mul] at hq
  by_cases hc : cWv h w st - nearB (cWv h w st) w.s v < 0
  · rw [if_pos hc, if_pos (.inl hc)]
  · rw [if_neg hc, if_neg (by omega), Int.min_eq_right (by omega)]
    dsimp only
    rw [if_neg (by omega), show (cWv h w st - nearB (cWv h w st) w.s v) * w.u + w.u - 1 + 1 = (cWv h w st - nearB (cWv h w st) w.s v) * w.u + w.u by omega]
end
end Sd

namespace Sd
open PySem
/-! ### the search by halving -/
theorem bits_gt (i : Int) : i.natAbs < 2 ^ Builtin.Int.intBits i := by
  unfold Builtin.Int.intBits
  split
  · rename_i h
    have : i.natAbs = 0 := by simpa using h
    rw [this]; decide
  · rename_i h
    have h0 : i.natAbs ≠ 0 := by simpa using h
    exact (Nat.log2_lt h0).mp (by omega)
theorem lrI_inv {h : Hf} {most w : Int} (hk : HfOk h) (hm : ∀ a b, 0 ≤ a → a ≤ b → b ≤ h.R - 1 → h.f a + w * a ≤ h.f b + w * b) : ∀ j, ((lrI h most w j).1 = 0 ∨ h.f (lrI h most w j).1 + w * (lrI h most w j).1 ≤ most) ∧ (∀ r, (lrI h most w j).2 < r → r ≤ h.R - 1 → most < h.f r + w * r) ∧ ((lrI h most w j).2 - (lrI h most w j).1) * 2 ^ j ≤ h.R - 1
  | 0 => ⟨.inl rfl, fun r a b => by have a : h.R - 1 < r := a; omega, by show (h.R - 1 - 0) * 2 ^ 0 ≤ h.R - 1; simp⟩
  | j + 1 => by
    obtain ⟨a, b, c⟩ := lrI_inv hk hm j
    obtain ⟨b0, b1, b2⟩ := lrI_bd hk most w j
    have e : lrI h most w (j + 1) = lrS h most w (lrI h most w j) := rfl
    rw [e]
    generalize lrI h most w j = x at *
    obtain ⟨lo, hi⟩ := x
    dsimp only at *
    have p2 : (2 : Int) ^ (j + 1) = 2 * 2 ^ j := by rw [Int.pow_succ, Int.mul_comm]
    have pp : (0 : Int) < 2 ^ j := Int.pow_pos (by decide)
    have fin : ∀ d, 0 ≤ d → 2 * d ≤ hi - lo → d * 2 ^ (j + 1) ≤ h.R - 1 := fun d d0 hd => by
      rw [p2, ← Int.mul_assoc, Int.mul_comm d]
      have := Int.mul_le_mul_of_nonneg_right hd (Int.le_of_lt pp)
      omega
    unfold lrS
    by_cases h1 : lo < hi
    · rw [if_pos h1]
      dsimp only
      by_cases h2 : h.f ((lo + hi + 1) / 2) + w * ((lo + hi + 1) / 2) ≤ most
      · rw [if_pos h2]
        exact ⟨.inr h2, b, fin _ (by dsimp only; omega) (by dsimp only; omega)⟩
      · rw [if_neg h2]
        refine ⟨a, fun r x y => ?_, fin _ (by dsimp only; omega) (by dsimp only; omega)⟩
        dsimp only at x
        have := hm ((lo + hi + 1) / 2) r (by omega) (by omega) y
        omega
    · rw [if_neg h1]
      refine ⟨a, b, ?_⟩
      have : hi - lo = 0 := by omega
      dsimp only
      rw [this, Int.zero_mul]
      have := hk.R1
      omega
theorem rights_spec {h : Hf} {most w : Int} (hk : HfOk h) (hm : ∀ a b, 0 ≤ a → a ≤ b → b ≤ h.R - 1 → h.f a + w * a ≤ h.f b + w * b) : 0 ≤ rightsI h most w ∧ rightsI h most w ≤ h.R - 1 ∧ (rightsI h most w = 0 ∨ h.f (rightsI h most w) + w * rightsI h most w ≤ most) ∧ ∀ r, rightsI h most w < r → r ≤ h.R - 1 → most < h.f r + w * r := by
  obtain ⟨a, b, c⟩ := lrI_inv (most := most) hk hm (Builtin.Int.intBits h.R + 1)
  obtain ⟨b0, b1, b2⟩ := lrI_bd hk most w (Builtin.Int.intBits h.R + 1)
  have hR := hk.R1
  have hb := bits_gt h.R
  have pw : h.R < 2 ^ (Builtin.Int.intBits h.R + 1) := by
    have e : ((2 ^ Builtin.Int.intBits h.R : Nat) : Int) = (2 : Int) ^ Builtin.Int.intBits h.R := by push_cast; rfl
    have : (2 : Int) ^ (Builtin.Int.intBits h.R + 1) = 2 * 2 ^ Builtin.Int.intBits h.R := by rw [Int.pow_succ, Int.mul_comm]
    omega
  unfold rightsI
  generalize lrI h most w (Builtin.Int.intBits h.R + 1) = x at *
  have : x.2 - x.1 = 0 := by
    by_cases z : x.2 - x.1 = 0
    · exact z
    · have := Int.mul_le_mul_of_nonneg_right (show 1 ≤ x.2 - x.1 by omega) (Int.le_of_lt (show (0 : Int) < 2 ^ (Builtin.Int.intBits h.R + 1) by omega))
      omega
  exact ⟨b0, by omega, a, fun r y z => b r (by omega) z⟩
/-! ### the two halves -/
section
variable {m : Msh} (hm : MOk m)
include hm
theorem Msh.fb_nn {r : Int} (h1 : r ≤ m.R - 1) (h0 : 0 ≤ r) : 0 ≤ m.L - 1 - (m.R - 1 - r) / m.b := by
  have b2 := hm.b2
  have kb := hm.kb
  have : (m.R - 1 - r) / m.b < m.L := by rw [Int.ediv_lt_iff_lt_mul (by omega)]; omega
  omega
theorem Msh.f_nn {r : Int} (h0 : 0 ≤ r) (h1 : r ≤ m.R - 1) : 0 ≤ m.f r := by
  have := Msh.fb_nn hm h1 h0
  have a2 := hm.a2
  have := Int.mul_nonneg h0 (show 0 ≤ m.a by omega)
  unfold Msh.f; omega
theorem Msh.f_zero : m.f 0 = 0 := by
  have hR := hm.R0
  have := Msh.fb_nn hm (r := 0) (by omega) (Int.le_refl 0)
  unfold Msh.f
  rw [Int.zero_mul]; omega
theorem Msh.f_le {r : Int} (h1 : r ≤ m.R - 1) : m.f r ≤ m.L - 1 := by
  have b2 := hm.b2
  have : 0 ≤ (m.R - 1 - r) / m.b := Int.ediv_nonneg (by omega) (by omega)
  unfold Msh.f; omega
theorem Msh.f_mono {r r' : Int} (h : r ≤ r') : m.f r ≤ m.f r' := by
  have a2 := hm.a2
  have b2 := hm.b2
  have h1 := Int.mul_le_mul_of_nonneg_right h (show 0 ≤ m.a by omega)
  have h2 := Int.ediv_le_ediv (show 0 < m.b by omega) (show m.R - 1 - r' ≤ m.R - 1 - r by omega)
  unfold Msh.f; omega
/-- a right count comes before a left one, or behind it -/
theorem Msh.gal {l r : Int} (h1 : 1 ≤ l) : m.f r ≤ l - 1 ↔ r ≤ m.g l := by
  have a2 := hm.a2
  have b2 := hm.b2
  have e1 : r ≤ (l - 1) / m.a ↔ r * m.a ≤ l - 1 := Int.le_ediv_iff_mul_le (by omega)
  have e2 : m.L - l ≤ (m.R - 1 - r) / m.b ↔ (m.L - l) * m.b ≤ m.R - 1 - r := Int.le_ediv_iff_mul_le (by omega)
  rw [Int.mul_comm] at e2
  unfold Msh.f Msh.g
  rw [if_neg (by omega)]
  omega
theorem mon_f : MonF m.f m.R := ⟨Msh.f_zero hm, fun a b _ h _ => Msh.f_mono hm h⟩
theorem mon_g : MonF m.g m.L := ⟨by unfold Msh.g; rw [if_pos rfl], fun a b h0 h _ => Msh.g_mono hm h0 h⟩
/-- the right count stands with the left one -/
theorem left_right {st k : Int} (h1 : st ≤ m.L + m.R - 2) (hk : m.Left st k) : Cnt m.f m.R st (st - k) := by
  obtain ⟨k0, k1, k2, k3⟩ := hk
  have hL := hm.L0
  have gn := Msh.g_nn hm k0
  have hr : st - k ≤ m.R - 1 ∧ m.f (st - k) ≤ k := by
    by_cases hz : k = m.L - 1
    · have := Msh.f_le hm (r := st - k) (by omega)
      omega
    · have j := k3 (k + 1) (by omega) (by omega)
      have g1 := Msh.g_le hm (k := k + 1) (by omega) (by omega)
      have := (Msh.gal hm (l := k + 1) (r := st - k) (by omega)).mpr (by omega)
      omega
  refine ⟨by omega, hr.1, by omega, fun j a b => ?_⟩
  by_cases hz : k = 0
  · have := Msh.f_nn hm (r := j) (by omega) b
    omega
  · have := mt (Msh.gal hm (l := k) (r := j) (by omega)).mp (by omega)
    omega
end
/-! ### the law's halves of a core of two dials or more -/
theorem half_2 {i : List Int} (h2 : 2 ≤ i.length) (hi : SzB i) : halfI i = ⟨gOfI i, (mshOf i).L, (mshOf i).R, (mshOf i).a, (mshOf i).b⟩ := by
  rw [halfI_eq hi]
  have eR : (mshOf i).R = pr (i.drop (gapI i + 1)) := pr_rev _
  unfold gOfI aOfI bOfI
  rw [if_neg (by omega), if_neg (by omega), if_neg (by omega), eR]; rfl
theorem half_f {i : List Int} (h2 : 2 ≤ i.length) (hi : SzB i) : (halfI i).f = (mshOf i).f := by rw [half_2 h2 hi]; rfl
theorem half_L {i : List Int} (h2 : 2 ≤ i.length) (hi : SzB i) : (halfI i).L = (mshOf i).L := by rw [half_2 h2 hi]
theorem half_R {i : List Int} (h2 : 2 ≤ i.length) (hi : SzB i) : (halfI i).R = (mshOf i).R := by rw [half_2 h2 hi]
theorem many_2 {i : List Int} (h2 : 2 ≤ i.length) : (corOf i).many = (mshOf i).L + (mshOf i).R - 1 := by rw [corOf_2 h2]; rfl
theorem rights_1 {i : List Int} (h2 : 2 ≤ i.length) (hi : SzB i) {st : Int} (h0 : 0 ≤ st) : Cnt (mshOf i).f (mshOf i).R st (rightsI (halfI i) st 1) := by
  have hm := mshOf_ok h2 hi
  have hR := hm.R0
  have hk := halfI_ok hi
  have ef := half_f h2 hi
  have eR := half_R h2 hi
  obtain ⟨a, b, c, d⟩ := rights_spec (most := st) (w := 1) hk (fun a b x y z => by rw [ef]; have := Msh.f_mono hm y; omega)
  rw [eR] at b d
  rw [ef] at c d
  refine ⟨a, b, ?_, fun j x y => by have := d j x y; omega⟩
  rcases c with c | c
  · rw [c, Msh.f_zero hm]; omega
  · omega
theorem rights_0 {i : List Int} (h2 : 2 ≤ i.length) (hi : SzB i) {n : Int} (h1 : 1 ≤ n) (hn : n ≤ (mshOf i).L) : rightsI (halfI i) (n - 1) 0 = (mshOf i).g n := by
  have hm := mshOf_ok h2 hi
  have hk := halfI_ok hi
  have ef := half_f h2 hi
  have eR := half_R h2 hi
  obtain ⟨a, b, c, d⟩ := rights_spec (most := n - 1) (w := 0) hk (fun a b x y z => by rw [ef]; have := Msh.f_mono hm y; omega)
  rw [eR] at b d
  rw [ef] at c d
  have g0 := Msh.g_nn hm (k := n) (by omega)
  have g1 := Msh.g_le hm (k := n) (by omega) hn
  generalize rightsI (halfI i) (n - 1) 0 = r at *
  rcases Int.lt_trichotomy r ((mshOf i).g n) with h | h | h
  · have := d _ h g1
    have := (Msh.gal hm (l := n) (r := (mshOf i).g n) h1).mpr (Int.le_refl _)
    omega
  · exact h
  · have := (Msh.gal hm (l := n) (r := r) h1).mp (by omega)
    omega
/-- the count of lefts, by the law's halving -/
def kOf (i : List Int) (st : Int) : Int := st - rightsI (halfI i) st 1
theorem kOf_left {i : List Int} (h2 : 2 ≤ i.length) (hi : SzB i) {st : Int} (h0 : 0 ≤ st) (h1 : st < (corOf i).many) : (mshOf i).Left st (kOf i st) := by
  have hm := mshOf_ok h2 hi
  rw [many_2 h2] at h1
  obtain ⟨k, hk⟩ := Msh.left_ex hm h0
  have := (left_right hm (by omega) hk).un (rights_1 h2 hi h0)
  have e : kOf i st = k := by unfold kOf; omega
  rw [e]; exact hk
theorem kOf_cor {i : List Int} (hi : SzB i) {st : Int} (h0 : 0 ≤ st) (h1 : st < (corOf i).many) : (corOf i).Left st (kOf i st) := by
  match i, hi, h1 with
  | [], _, _ => exact fun m e => by cases e
  | [s], _, _ => exact fun m e => by cases e
  | a :: b :: t, hi, h1 =>
    intro m e
    have := kOf_left (i := a :: b :: t) (by simp) hi h0 h1
    have e2 : mshOf (a :: b :: t) = m := Cor.msh.inj e
    rw [← e2]; exact this
/-! ### rows of the law's world -/
theorem pr_mid {l : List Int} {p : Nat} (h : p < l.length) : pr l = pr (l.take p) * l[p] * pr (l.drop (p + 1)) := by
  have : pr l = pr (l.take p) * pr (l.drop p) := by rw [← pr_app, List.take_append_drop]
  rw [this, pr_drop h, ← Int.mul_assoc]
theorem rights_R1 {h : Hf} (hR : h.R = 1) (most w : Int) : rightsI h most w = 0 := by
  have : ∀ j, lrI h most w j = (0, 0) := fun j => by
    induction j with
    | zero => show (0, h.R - 1) = _; rw [hR]; rfl
    | succ j ih =>
      show lrS h most w (lrI h most w j) = _
      rw [ih]; unfold lrS; rw [if_neg (by decide)]
  unfold rightsI
  rw [this]
def fRow (o i : List Int) (k : Nat) : Int → Int := if i.length < 2 then fun _ => 0 else if k - o.length < gOfI i then (mshOf i).g else (mshOf i).f
theorem row_in {o i : List Int} (hi : SzB i) {k : Nat} (h1 : o.length ≤ k) (h2 : k < o.length + i.length) : InOk (halfI i) (rowW o i k) (corOf i).many (fRow o i k) := by
  have hp : k - o.length < i.length := by omega
  have g := hi.get hp
  have eg := getD_get hp
  unfold fRow
  by_cases hl : i.length < 2
  · match i, hi, h2, hp, g, eg, hl with
    | [s], hi, h2, hp, g, eg, hl =>
      have ek : k - o.length = 0 := by simp only [List.length_singleton] at hp; omega
      have hs : 2 ≤ s := hi.two s (by simp)
      have eh : halfI [s] = ⟨1, s * 1, 1, 2, 2⟩ := rfl
      have er : rowW o [s] k = ⟨0, 1, s, waveI ((s * 1 - 1) / 1) s⟩ := by
        unfold rowW
        have eG : gOfI [s] = 1 := rfl
        rw [if_neg (by omega), if_pos (by rw [eG, ek]; decide), ek]; rfl
      have eM : (corOf [s]).many = s := rfl
      have r0 : ∀ a b, rightsI (halfI [s]) a b = 0 := fun a b => rights_R1 (by rw [eh]) a b
      rw [if_pos hl, er, eM]
      have eE : cEnd (halfI [s]) ⟨0, 1, s, waveI ((s * 1 - 1) / 1) s⟩ = s := by unfold cEnd; rw [if_pos rfl, eh]; exact Int.mul_one s
      refine ⟨by show (0 : Int) ≠ 2; decide, by show (0 : Int) < 1; decide, by show 0 < s; omega, ⟨rfl, fun _ _ _ _ _ => Int.le_refl _⟩, fun st a b => ?_, fun n a b => ?_, fun n a b => ?_, ?_⟩
      · rw [eE]
        unfold cntW
        rw [if_pos rfl, r0, Int.sub_zero]
        exact ⟨a, by omega, by show st + 0 ≤ st; omega, fun j x y => by show st < j + 0; omega⟩
      · unfold begsI
        rw [if_pos rfl, r0]
      · rw [eE] at b; omega
      · rw [eE]; show s * 1 ≤ s; omega
  · rw [if_neg hl]
    have h3 : 2 ≤ i.length := by omega
    have hm := mshOf_ok h3 hi
    have eG : gOfI i = gapI i + 1 := by unfold gOfI; rw [if_neg hl]
    have gl := gapI_lt h3
    have eL := half_L h3 hi
    have eR := half_R h3 hi
    have eM := many_2 h3
    have s2 : 2 ≤ i[k - o.length] := g.1
    unfold rowW
    rw [if_neg (by omega)]
    by_cases hg : k - o.length < gOfI i
    · rw [if_pos hg, if_pos hg]
      have hu := (hi.take (gOfI i)).drop (k - o.length + 1)
      have eE : ∀ u s e, cEnd (halfI i) ⟨0, u, s, e⟩ = (mshOf i).L := fun u s e => by unfold cEnd; rw [if_pos rfl, eL]
      refine ⟨by show (0 : Int) ≠ 2; decide, hu.pos, by show 0 < i.getD _ 0; rw [eg]; omega, by rw [eE]; exact mon_g hm, fun st a b => ?_, fun n a b => ?_, fun n a b => ?_, ?_⟩
      · rw [eE]
        have := kOf_left h3 hi a b
        unfold cntW
        rw [if_pos rfl]; exact this
      · rw [eE] at b
        show begsI (halfI i) 0 n = _
        unfold begsI
        rw [if_pos rfl, rights_0 h3 hi a (by omega)]
      · rw [eE] at b
        have := Msh.g_le hm a (by omega)
        rw [eM]; omega
      · rw [eE]
        show i.getD _ 0 * lefU i (k - o.length) ≤ _
        have hpl : k - o.length < (i.take (gOfI i)).length := by rw [List.length_take]; omega
        have e : (mshOf i).L = pr (i.take (gOfI i)) := by rw [eG]; rfl
        rw [e, pr_mid hpl, List.getElem_take, eg]
        unfold lefU
        have p1 := ((hi.take (gOfI i)).take (k - o.length)).pos
        have p2 : 0 ≤ i[k - o.length] * pr ((i.take (gOfI i)).drop (k - o.length + 1)) := Int.mul_nonneg (by omega) (Int.le_of_lt hu.pos)
        have := Int.mul_le_mul_of_nonneg_right (show 1 ≤ pr ((i.take (gOfI i)).take (k - o.length)) by omega) p2
        rw [Int.mul_assoc]
        omega
    · rw [if_neg hg, if_neg hg]
      have hu := (hi.drop (gOfI i)).take (k - o.length - gOfI i)
      have eE : ∀ u s e, cEnd (halfI i) ⟨1, u, s, e⟩ = (mshOf i).R := fun u s e => by unfold cEnd; rw [if_neg (show ¬ (1 : Int) = 0 by decide), eR]
      refine ⟨by show (1 : Int) ≠ 2; decide, hu.pos, by show 0 < i.getD _ 0; rw [eg]; omega, by rw [eE]; exact mon_f hm, fun st a b => ?_, fun n a b => ?_, fun n a b => ?_, ?_⟩
      · rw [eE]
        unfold cntW
        rw [if_neg (show ¬ (1 : Int) = 0 by decide)]
        exact rights_1 h3 hi a
      · show begsI (halfI i) 1 n = _
        unfold begsI
        rw [if_neg (show ¬ (1 : Int) = 0 by decide), half_f h3 hi]
      · rw [eE] at b
        have := Msh.f_le hm b
        rw [eM]; omega
      · rw [eE]
        show i.getD _ 0 * rigU i (k - o.length - gOfI i) ≤ _
        have hpl : k - o.length - gOfI i < (i.drop (gOfI i)).length := by rw [List.length_drop]; omega
        have e : (mshOf i).R = pr (i.drop (gOfI i)) := by rw [eG]; exact pr_rev _
        have e3 : (i.drop (gOfI i))[k - o.length - gOfI i] = i[k - o.length] := by rw [List.getElem_drop]; congr 1; omega
        rw [e, pr_mid hpl, e3, eg]
        unfold rigU
        have p1 := ((hi.drop (gOfI i)).drop (k - o.length - gOfI i + 1)).pos
        have p2 : 0 ≤ i[k - o.length] * pr ((i.drop (gOfI i)).take (k - o.length - gOfI i)) := Int.mul_nonneg (by omega) (Int.le_of_lt hu.pos)
        have := Int.mul_le_mul_of_nonneg_right (show 1 ≤ pr ((i.drop (gOfI i)).drop (k - o.length - gOfI i + 1)) by omega) p2
        rw [Int.mul_comm (pr ((i.drop (gOfI i)).take _)), Int.mul_comm (_ * _) (pr _)]
        omega
theorem row_sz {o i : List Int} {k : Nat} (h : k < o.length + i.length) : (rowW o i k).s = (o ++ i).getD k 0 := by
  unfold rowW
  by_cases h1 : k < o.length
  · have e : (o ++ i).getD k 0 = o.getD k 0 := by rw [List.getD_eq_getElem?_getD, List.getElem?_append_left h1, ← List.getD_eq_getElem?_getD]
    rw [if_pos h1, e]
  · have e : (o ++ i).getD k 0 = i.getD (k - o.length) 0 := by rw [List.getD_eq_getElem?_getD, List.getElem?_append_right (by omega), ← List.getD_eq_getElem?_getD]
    rw [if_neg h1, e]
    split <;> rfl
theorem row_out {o i : List Int} (ho : SzB o) (hi : SzB i) {k : Nat} (h1 : k < o.length) : OuOk (rowW o i k) (pr (o.take k)) ∧ (corOf i).many * pr o = (rowW o i k).u * (rowW o i k).s * pr (o.take k) := by
  have hc := Cor.many_pos (corOf_ok hi)
  have eg := getD_get h1
  have g := ho.get h1
  have er : rowW o i k = ⟨2, spanI o (corOf i).many k, o.getD k 0, (o.getD k 0 - 1) * pr (o.take k)⟩ := by unfold rowW; rw [if_pos h1]
  rw [er]
  refine ⟨⟨rfl, spanI_pos ho hc k, by show 2 ≤ o.getD k 0; rw [eg]; exact g.1, rfl⟩, ?_⟩
  show _ = spanI o (corOf i).many k * o.getD k 0 * pr (o.take k)
  unfold spanI
  rw [pr_mid h1, eg, Int.mul_assoc (corOf i).many, Int.mul_assoc (corOf i).many]
  congr 1
  rw [Int.mul_comm (pr (o.drop (k + 1))), Int.mul_comm (pr (o.take k)), Int.mul_assoc, Int.mul_assoc, Int.mul_comm (pr (o.take k))]
theorem seekI_next {o i : List Int} (ho : SzB o) (hi : SzB i) {k : Nat} (hk : k < o.length + i.length) {v st : Int} (v0 : 0 ≤ v) (v1 : v < (o ++ i).getD k 0) (h0 : 0 ≤ st) (h1 : st < (corOf i).many * pr o) : Nx (fun x => showsI o i k x = v) st ((corOf i).many * pr o) (seekI o i k v st 1) := by
  rw [← row_sz hk] at v1
  unfold seekI showsI
  by_cases h : k < o.length
  · obtain ⟨O, e⟩ := row_out ho hi h
    rw [if_pos O.sd]
    rw [e] at h1 ⊢
    exact outer_next O v0 v1 h0 h1
  · have I := row_in (o := o) hi (k := k) (by omega) hk
    rw [if_neg I.sd]
    exact seek_next I v0 v1 h0 h1
theorem seekI_last {o i : List Int} (ho : SzB o) (hi : SzB i) {k : Nat} (hk : k < o.length + i.length) {v st : Int} (v0 : 0 ≤ v) (v1 : v < (o ++ i).getD k 0) (h0 : 0 ≤ st) (h1 : st < (corOf i).many * pr o) : Ls (fun x => showsI o i k x = v) st (seekI o i k v st (-1)) := by
  rw [← row_sz hk] at v1
  unfold seekI showsI
  by_cases h : k < o.length
  · obtain ⟨O, e⟩ := row_out ho hi h
    rw [if_pos O.sd]
    rw [e] at h1
    exact outer_last O v0 v1 h0 h1
  · have I := row_in (o := o) hi (k := k) (by omega) hk
    rw [if_neg I.sd]
    exact seek_last I v0 v1 h0 h1
theorem showsI_bd {o i : List Int} (ho : SzB o) (hi : SzB i) {k : Nat} (hk : k < o.length + i.length) (st : Int) : 0 ≤ showsI o i k st ∧ showsI o i k st < (o ++ i).getD k 0 := by
  have hs : 0 < (rowW o i k).s := by
    by_cases h : k < o.length
    · have := (row_out ho hi h).1.s2; omega
    · exact (row_in (o := o) hi (k := k) (by omega) hk).s0
  rw [← row_sz hk]
  unfold showsI showsW
  split
  · exact ⟨Int.emod_nonneg _ (by omega), Int.emod_lt_of_pos _ hs⟩
  · exact ⟨Int.emod_nonneg _ (by omega), Int.emod_lt_of_pos _ hs⟩
theorem fullL {o i : List Int} (ho : SzB o) (hi : SzB i) : FullL o i := by
  intro k v way hk hsd v0 v1 hw
  have h : ¬ k < o.length := fun h => hsd (row_out ho hi h).1.sd
  have I := row_in (o := o) hi (k := k) (by omega) hk
  rcases hw with e | e
  · subst e
    have eb : begW (corOf i).many 1 = 0 := by unfold begW; rw [if_neg (by decide), Int.mul_zero]
    rw [eb]; exact inner_full1 I v0 v1
  · subst e
    have eb : begW (corOf i).many (-1) = (corOf i).many - 1 := by unfold begW; rw [if_pos rfl, Int.mul_one]
    rw [eb]; exact inner_fullb I v0 v1
end Sd

namespace Sd
open PySem
/-! ### the rows of a core -/
theorem dig_wave {s c : Int} (hs : 0 < s) : dig s c = waveI c s := by
  obtain ⟨e, r0, r1⟩ := lap_rest c hs
  have db := dig_lt (s := s) (c := c) hs
  have h := (wave_lap (s := s) db.1 db.2 (c / s) (c % s) r0 r1).mpr (by
    unfold spotI dig
    by_cases h : c / s % 2 = 0
    · rw [if_pos h, if_pos h]
    · rw [if_neg h, if_neg h]; omega)
  rw [← e] at h
  exact h.symm
theorem restAt_pr {l : List Int} (h2 : ∀ n ∈ l, 2 ≤ n) (c : Int) : ∀ i, i ≤ l.length → restAt l c i = c / pr (l.take i)
  | 0, _ => by rw [restAt_0]; simp [pr]
  | i + 1, h => by
    have p : 0 < pr (l.take i) := pr_pos fun n hn => h2 n (List.mem_of_mem_take hn)
    rw [restAt_s (by omega), restAt_pr h2 c i (by omega), pr_take (by omega), Int.ediv_ediv_of_nonneg (by omega)]
theorem take_rev_pr {l : List Int} {p : Nat} (h : p < l.length) : pr (l.reverse.take (l.length - 1 - p)) = pr (l.drop (p + 1)) := by
  rw [List.take_reverse, pr_rev, show l.length - (l.length - 1 - p) = p + 1 by omega]
theorem counted_at {l : List Int} (h2 : ∀ n ∈ l, 2 ≤ n) {p : Nat} (h : p < l.length) (c : Int) : (counted l c)[p]? = some (waveI (c / pr (l.drop (p + 1))) l[p]) := by
  have hr : ∀ n ∈ l.reverse, 2 ≤ n := fun n hn => h2 n (List.mem_reverse.mp hn)
  have hs := h2 l[p] (List.getElem_mem h)
  unfold counted
  rw [List.getElem?_reverse (by rw [cntR_len, List.length_reverse]; exact h), cntR_len, List.length_reverse, cntR_get (by rw [List.length_reverse]; omega), restAt_pr hr c _ (by rw [List.length_reverse]; omega), take_rev_pr h]
  have e : l.reverse[l.length - 1 - p]'(by rw [List.length_reverse]; omega) = l[p] := by rw [List.getElem_reverse]; congr 1; omega
  rw [e, dig_wave (by omega)]
theorem cntR_at {l : List Int} (h2 : ∀ n ∈ l, 2 ≤ n) {p : Nat} (h : p < l.length) (c : Int) : (cntR l c)[p]? = some (waveI (c / pr (l.take p)) l[p]) := by
  have hs := h2 l[p] (List.getElem_mem h)
  rw [cntR_get h, restAt_pr h2 c p (by omega), dig_wave (by omega)]
theorem rowW_l {o i : List Int} {p : Nat} (h : p < gOfI i) : rowW o i (o.length + p) = ⟨0, lefU i p, i.getD p 0, waveI ((pr (i.take (gOfI i)) - 1) / lefU i p) (i.getD p 0)⟩ := by
  unfold rowW
  rw [if_neg (by omega), Nat.add_sub_cancel_left, if_pos h]
theorem rowW_r {o i : List Int} {p : Nat} (h : ¬ p < gOfI i) : rowW o i (o.length + p) = ⟨1, rigU i (p - gOfI i), i.getD p 0, waveI ((pr (i.drop (gOfI i)) - 1) / rigU i (p - gOfI i)) (i.getD p 0)⟩ := by
  unfold rowW
  rw [if_neg (by omega), Nat.add_sub_cancel_left, if_neg h]
theorem rowW_s {o i : List Int} {p : Nat} : (rowW o i (o.length + p)).s = i.getD p 0 := by
  by_cases h : p < gOfI i
  · rw [rowW_l h]
  · rw [rowW_r h]
theorem vals_1 {s st k : Int} : (corOf [s]).vals st k = [st] := rfl
theorem rightsI_1 {s : Int} (a b : Int) : rightsI (halfI [s]) a b = 0 := rights_R1 rfl a b
theorem rowW_1 {o : List Int} {s : Int} : rowW o [s] (o.length + 0) = ⟨0, 1, s, waveI ((s * 1 - 1) / 1) s⟩ := rowW_l (i := [s]) (p := 0) (by show 0 < 1; decide)
theorem cWv_1 {o : List Int} {s : Int} (st : Int) : cWv (halfI [s]) (rowW o [s] (o.length + 0)) st = st := by
  rw [rowW_1]
  unfold cWv cntW
  rw [if_pos rfl, rightsI_1]
  show (st - 0) / 1 = st
  rw [Int.ediv_one, Int.sub_zero]
theorem wave_id {x s : Int} (h0 : 0 ≤ x) (h1 : x < s) : waveI x s = x := by
  rw [wave_iff h0 h1, Int.emod_eq_of_lt h0 (by omega)]; exact .inl rfl
theorem cor_vals {o i : List Int} (hi : SzB i) {st : Int} (h0 : 0 ≤ st) (h1 : st < (corOf i).many) {p : Nat} (hp : p < i.length) : ((corOf i).vals st (kOf i st)).getD p 0 = waveI (cWv (halfI i) (rowW o i (o.length + p)) st) (i.getD p 0) := by
  by_cases h2 : 2 ≤ i.length
  · have hg := gapI_lt h2
    have eG : gOfI i = gapI i + 1 := by unfold gOfI; rw [if_neg (by omega)]
    have eg := getD_get hp
    have ll : (mshOf i).l.length = gOfI i := by show (i.take (gapI i + 1)).length = _; rw [List.length_take, eG]; omega
    rw [corOf_2 h2]
    show (counted (mshOf i).l (kOf i st) ++ (counted (mshOf i).r (st - kOf i st)).reverse).getD p 0 = _
    rw [List.getD_eq_getElem?_getD]
    by_cases h : p < gOfI i
    · have hpl : p < (mshOf i).l.length := by omega
      rw [List.getElem?_append_left (by rw [counted_len]; omega), counted_at (l := (mshOf i).l) (fun n hn => hi.two n (List.mem_of_mem_take hn)) hpl, rowW_l h]
      have e1 : (mshOf i).l[p] = i[p] := List.getElem_take
      rw [e1, eg]
      unfold cWv cntW lefU
      rw [if_pos rfl, eG]; rfl
    · rw [List.getElem?_append_right (by rw [counted_len]; omega), counted_len, ll]
      have er : (counted (mshOf i).r (st - kOf i st)).reverse = cntR (i.drop (gOfI i)) (st - kOf i st) := by
        unfold counted
        rw [List.reverse_reverse, eG]
        show cntR ((i.drop (gapI i + 1)).reverse.reverse) _ = _
        rw [List.reverse_reverse]
      have hpl : p - gOfI i < (i.drop (gOfI i)).length := by rw [List.length_drop]; omega
      rw [er, cntR_at (fun n hn => hi.two n (List.mem_of_mem_drop hn)) hpl, rowW_r h]
      have e1 : (i.drop (gOfI i))[p - gOfI i] = i[p] := by rw [List.getElem_drop]; congr 1; omega
      rw [e1, eg]
      unfold cWv cntW rigU kOf
      rw [if_neg (show ¬ (1 : Int) = 0 by decide), show st - (st - rightsI (halfI i) st 1) = rightsI (halfI i) st 1 by omega]; rfl
  · match i, hi, hp, h2, h1 with
    | [s], hi, hp, h2, h1 =>
      have ep : p = 0 := by simp only [List.length_singleton] at hp; omega
      subst ep
      have h1 : st < s := h1
      rw [cWv_1, vals_1]
      show st = waveI st s
      rw [wave_id h0 h1]
    | a :: b :: t, hi, hp, h2, h1 => exact absurd (by simp) h2
/-- where the core ends -/
theorem top_eq {i : List Int} (hi : SzB i) (h2 : 2 ≤ i.length) : (corOf i).top = kOf i ((corOf i).many - 1) := by
  have hp := Cor.many_pos (corOf_ok hi)
  exact Msh.left_un (mshOf_ok h2 hi) (corOf_left (Cor.top_left (corOf_ok hi)) h2) (kOf_left h2 hi (by omega) (by omega))
theorem moved_eq {i : List Int} (hi : SzB i) : coreMoved i = (corOf i).vals ((corOf i).many - 1) (kOf i ((corOf i).many - 1)) := by
  unfold coreMoved
  by_cases h2 : 2 ≤ i.length
  · rw [top_eq hi h2]
  · match i, h2 with
    | [], _ => rfl
    | [s], _ => rfl
    | a :: b :: t, h2 => exact absurd (by simp) h2
theorem moved_e {o i : List Int} (hi : SzB i) {p : Nat} (hp : p < i.length) : (coreMoved i).getD p 0 = (rowW o i (o.length + p)).e := by
  have hc := Cor.many_pos (corOf_ok hi)
  rw [moved_eq hi, cor_vals (o := o) hi (by omega) (by omega) hp]
  by_cases h2 : 2 ≤ i.length
  · have eG : gOfI i = gapI i + 1 := by unfold gOfI; rw [if_neg (by omega)]
    have et := top_eq hi h2
    have eT : (corOf i).top = (mshOf i).L - 1 := by rw [corOf_2 h2]; rfl
    have eM := many_2 h2
    have eR : (mshOf i).R = pr (i.drop (gapI i + 1)) := pr_rev _
    have eL : (mshOf i).L = pr (i.take (gapI i + 1)) := rfl
    have ek : kOf i ((corOf i).many - 1) = (corOf i).many - 1 - rightsI (halfI i) ((corOf i).many - 1) 1 := rfl
    by_cases h : p < gOfI i
    · rw [rowW_l h]
      unfold cWv cntW
      rw [if_pos rfl]
      show waveI (((corOf i).many - 1 - rightsI (halfI i) ((corOf i).many - 1) 1) / lefU i p) _ = waveI _ _
      rw [← ek, ← et, eT, eL, eG]
    · rw [rowW_r h]
      unfold cWv cntW
      rw [if_neg (show ¬ (1 : Int) = 0 by decide)]
      show waveI (rightsI (halfI i) ((corOf i).many - 1) 1 / rigU i (p - gOfI i)) _ = waveI _ _
      rw [show rightsI (halfI i) ((corOf i).many - 1) 1 = (mshOf i).R - 1 by omega, eR, eG]
  · match i, hi, hp, h2 with
    | [s], hi, hp, h2 =>
      have ep : p = 0 := by simp only [List.length_singleton] at hp; omega
      subst ep
      rw [cWv_1, rowW_1]
      show waveI (s - 1) s = waveI ((s * 1 - 1) / 1) s
      rw [Int.ediv_one, Int.mul_one]
    | a :: b :: t, hi, hp, h2 => exact absurd (by simp) h2
theorem coreVal_eq {o i : List Int} (hi : SzB i) {p : Nat} (hp : p < i.length) (v c : Int) : coreVal i p v c = cvW (rowW o i (o.length + p)) v c := by
  unfold coreVal cvW
  rw [moved_e (o := o) hi hp, rowW_s]
/-! ### the program's seeks are the law's -/
theorem width_l {i : List Int} {p : Nat} (h2 : 2 ≤ i.length) (h : p < gOfI i) : widI i (gapI i + 1) p = lefU i p := by
  have eG : gOfI i = gapI i + 1 := by unfold gOfI; rw [if_neg (by omega)]
  unfold widI lefU
  rw [if_pos (by omega), eG]
theorem width_r {i : List Int} {p : Nat} (h2 : 2 ≤ i.length) (h : ¬ p < gOfI i) : widI i (gapI i + 1) p = rigU i (p - gOfI i) := by
  have eG : gOfI i = gapI i + 1 := by unfold gOfI; rw [if_neg (by omega)]
  unfold widI rigU
  rw [if_neg (by omega), eG]
theorem core_next {o i : List Int} (hi : SzB i) {p : Nat} (hp : p < i.length) {v st : Int} (v0 : 0 ≤ v) (v1 : v < i.getD p 0) (h0 : 0 ≤ st) (h1 : st < (corOf i).many) : coreNext i p v st (kOf i st) = innerI (halfI i) (rowW o i (o.length + p)) v st 1 := by
  have I := row_in (o := o) hi (k := o.length + p) (by omega) (by omega)
  rw [← rowW_s (o := o)] at v1
  by_cases h2 : 2 ≤ i.length
  · have eG : gOfI i = gapI i + 1 := by unfold gOfI; rw [if_neg (by omega)]
    have hm := mshOf_ok h2 hi
    have g := hi.get hp
    have eg := getD_get hp
    have c := I.cW h0 h1
    rw [innerI_1 I v0 v1 h0 h1]
    unfold coreNext
    rw [if_neg (by omega)]
    by_cases h : p < gOfI i
    · rw [if_pos (by omega)]
      rw [rowW_l h] at v1 c ⊢
      have ec : cntW (halfI i) ⟨0, lefU i p, i.getD p 0, waveI ((pr (i.take (gOfI i)) - 1) / lefU i p) (i.getD p 0)⟩ st = kOf i st := by unfold cntW; rw [if_pos rfl]; rfl
      have eE : cEnd (halfI i) ⟨0, lefU i p, i.getD p 0, waveI ((pr (i.take (gOfI i)) - 1) / lefU i p) (i.getD p 0)⟩ = (mshOf i).L := by unfold cEnd; rw [if_pos rfl, half_L h2 hi]
      rw [ec, eE] at c ⊢
      have hpl : p < (i.take (gOfI i)).length := by rw [List.length_take]; omega
      have eL : (mshOf i).L = lefU i p * i.getD p 0 * pr ((i.take (gOfI i)).take p) := by
        show pr (i.take (gapI i + 1)) = _
        rw [← eG, pr_mid hpl, List.getElem_take, eg]
        unfold lefU
        rw [Int.mul_comm, Int.mul_comm (pr ((i.take (gOfI i)).take p)), ← Int.mul_assoc]
      have hu := ((hi.take (gOfI i)).drop (p + 1)).pos
      rw [width_l h2 h]
      dsimp only at v1 ⊢
      have es : showOn (i.getD p 0) (lefU i p) v (kOf i st) (mshOf i).L = nextC (i.getD p 0) (lefU i p) v (kOf i st) (mshOf i).L := by
        rw [eL]; exact showOn_eq v0 v1 hu (by rw [← eL]; omega)
      rw [es]
      cases hq : nextC (i.getD p 0) (lefU i p) v (kOf i st) (mshOf i).L with
      | none => rfl
      | some c' =>
        dsimp only
        by_cases hk : c' = kOf i st
        · rw [if_pos hk, if_pos hk]
        · have hc' : kOf i st ≤ c' ∧ c' < (mshOf i).L := by
            unfold nextC at hq
            split at hq
            · cases hq; omega
            · cases hq
          rw [if_neg hk, if_neg hk]
          unfold begsI
          rw [if_pos rfl, rights_0 h2 hi (by omega) (by omega)]
    · rw [if_neg (by omega)]
      rw [rowW_r h] at v1 c ⊢
      have ec : cntW (halfI i) ⟨1, rigU i (p - gOfI i), i.getD p 0, waveI ((pr (i.drop (gOfI i)) - 1) / rigU i (p - gOfI i)) (i.getD p 0)⟩ st = st - kOf i st := by unfold cntW kOf; rw [if_neg (show ¬ (1 : Int) = 0 by decide)]; omega
      have eE : cEnd (halfI i) ⟨1, rigU i (p - gOfI i), i.getD p 0, waveI ((pr (i.drop (gOfI i)) - 1) / rigU i (p - gOfI i)) (i.getD p 0)⟩ = (mshOf i).R := by unfold cEnd; rw [if_neg (show ¬ (1 : Int) = 0 by decide), half_R h2 hi]
      rw [ec, eE] at c ⊢
      have hpl : p - gOfI i < (i.drop (gOfI i)).length := by rw [List.length_drop]; omega
      have e3 : (i.drop (gOfI i))[p - gOfI i] = i[p] := by rw [List.getElem_drop]; congr 1; omega
      have eL : (mshOf i).R = rigU i (p - gOfI i) * i.getD p 0 * pr ((i.drop (gOfI i)).drop (p - gOfI i + 1)) := by
        have eR : (mshOf i).R = pr (i.drop (gapI i + 1)) := pr_rev _
        rw [eR, ← eG, pr_mid hpl, e3, eg]; rfl
      have hu := ((hi.drop (gOfI i)).take (p - gOfI i)).pos
      rw [width_r h2 h]
      dsimp only at v1 ⊢
      have es : showOn (i.getD p 0) (rigU i (p - gOfI i)) v (st - kOf i st) (mshOf i).R = nextC (i.getD p 0) (rigU i (p - gOfI i)) v (st - kOf i st) (mshOf i).R := by
        rw [eL]; exact showOn_eq v0 v1 hu (by rw [← eL]; omega)
      rw [es]
      cases hq : nextC (i.getD p 0) (rigU i (p - gOfI i)) v (st - kOf i st) (mshOf i).R with
      | none => rfl
      | some c' =>
        dsimp only
        by_cases hk : c' = st - kOf i st
        · rw [if_pos hk, if_pos hk]
        · rw [if_neg hk, if_neg hk]
          unfold begsI
          rw [if_neg (show ¬ (1 : Int) = 0 by decide), half_f h2 hi]
  · match i, hi, hp, h2, h1, v1, I with
    | [s], hi, hp, h2, h1, v1, I =>
      have ep : p = 0 := by simp only [List.length_singleton] at hp; omega
      subst ep
      have h1 : st < s := h1
      have v1 : v < s := by rw [rowW_1] at v1; exact v1
      have n := inner_next I v0 (by rw [rowW_1]; exact v1) h0 h1
      refine (Nx.un ?_ n)
      unfold coreNext
      rw [if_pos (show [s].length = 1 from rfl)]
      have P : ∀ x, 0 ≤ x → x < s → (waveI (cWv (halfI [s]) (rowW o [s] (o.length + 0)) x) (rowW o [s] (o.length + 0)).s = v ↔ x = v) := fun x a b => by
        rw [cWv_1, rowW_s]
        show waveI x s = v ↔ x = v
        rw [wave_id a b]
      by_cases hv : st ≤ v
      · rw [if_pos hv]
        refine ⟨fun x e => ?_, fun y a b c => ⟨v, rfl, ?_⟩⟩
        · cases e; exact ⟨hv, v1, (P v v0 v1).mpr rfl⟩
        · have := (P y (by omega) b).mp c; omega
      · rw [if_neg hv]
        refine ⟨fun x e => (by cases e), fun y a b c => ?_⟩
        have := (P y (by omega) b).mp c; omega
    | a :: b :: t, hi, hp, h2, h1, v1, I => exact absurd (by simp) h2
theorem core_last {o i : List Int} (hi : SzB i) {p : Nat} (hp : p < i.length) {v st : Int} (v0 : 0 ≤ v) (v1 : v < i.getD p 0) (h0 : 0 ≤ st) (h1 : st < (corOf i).many) : coreLast i p v st (kOf i st) = innerI (halfI i) (rowW o i (o.length + p)) v st (-1) := by
  have I := row_in (o := o) hi (k := o.length + p) (by omega) (by omega)
  rw [← rowW_s (o := o)] at v1
  by_cases h2 : 2 ≤ i.length
  · have eG : gOfI i = gapI i + 1 := by unfold gOfI; rw [if_neg (by omega)]
    have hm := mshOf_ok h2 hi
    have c := I.cW h0 h1
    rw [innerI_b I v0 v1 h0 h1]
    unfold coreLast
    rw [if_neg (by omega)]
    by_cases h : p < gOfI i
    · rw [if_pos (by omega)]
      rw [rowW_l h] at v1 c ⊢
      have ec : cntW (halfI i) ⟨0, lefU i p, i.getD p 0, waveI ((pr (i.take (gOfI i)) - 1) / lefU i p) (i.getD p 0)⟩ st = kOf i st := by unfold cntW; rw [if_pos rfl]; rfl
      have eE : cEnd (halfI i) ⟨0, lefU i p, i.getD p 0, waveI ((pr (i.take (gOfI i)) - 1) / lefU i p) (i.getD p 0)⟩ = (mshOf i).L := by unfold cEnd; rw [if_pos rfl, half_L h2 hi]
      rw [eE] at c
      rw [ec] at c ⊢
      have hu := ((hi.take (gOfI i)).drop (p + 1)).pos
      rw [width_l h2 h]
      dsimp only at v1 ⊢
      have es : showBack (i.getD p 0) (lefU i p) v (kOf i st) = lastC (i.getD p 0) (lefU i p) v (kOf i st) := showBack_eq v0 v1 hu c.1
      rw [es]
      cases hq : lastC (i.getD p 0) (lefU i p) v (kOf i st) with
      | none => rfl
      | some c' =>
        dsimp only
        by_cases hk : c' = kOf i st
        · rw [if_pos hk, if_pos hk]
        · have hc' : c' ≤ kOf i st ∧ 0 ≤ c' := by
            unfold lastC at hq
            split at hq
            · cases hq
            · rename_i hz
              have hz2 : 0 ≤ kOf i st / lefU i p - nearB (kOf i st / lefU i p) (i.getD p 0) v := by omega
              have hz3 := Int.mul_nonneg hz2 (Int.le_of_lt hu)
              cases hq; exact ⟨by omega, by unfold lefU at *; omega⟩
          rw [if_neg hk, if_neg hk]
          unfold begsI
          rw [if_pos rfl, rights_0 h2 hi (by omega) (by omega)]
    · rw [if_neg (by omega)]
      rw [rowW_r h] at v1 c ⊢
      have ec : cntW (halfI i) ⟨1, rigU i (p - gOfI i), i.getD p 0, waveI ((pr (i.drop (gOfI i)) - 1) / rigU i (p - gOfI i)) (i.getD p 0)⟩ st = st - kOf i st := by unfold cntW kOf; rw [if_neg (show ¬ (1 : Int) = 0 by decide)]; omega
      rw [ec] at c ⊢
      have hu := ((hi.drop (gOfI i)).take (p - gOfI i)).pos
      rw [width_r h2 h]
      dsimp only at v1 ⊢
      have es : showBack (i.getD p 0) (rigU i (p - gOfI i)) v (st - kOf i st) = lastC (i.getD p 0) (rigU i (p - gOfI i)) v (st - kOf i st) := showBack_eq v0 v1 hu c.1
      rw [es]
      cases hq : lastC (i.getD p 0) (rigU i (p - gOfI i)) v (st - kOf i st) with
      | none => rfl
      | some c' =>
        dsimp only
        by_cases hk : c' = st - kOf i st
        · rw [if_pos hk, if_pos hk]
        · rw [if_neg hk, if_neg hk]
          unfold begsI
          rw [if_neg (show ¬ (1 : Int) = 0 by decide), half_f h2 hi]
  · match i, hi, hp, h2, h1, v1, I with
    | [s], hi, hp, h2, h1, v1, I =>
      have ep : p = 0 := by simp only [List.length_singleton] at hp; omega
      subst ep
      have h1 : st < s := h1
      have v1 : v < s := by rw [rowW_1] at v1; exact v1
      have n := inner_last I v0 (by rw [rowW_1]; exact v1) h0 h1
      refine (Ls.un ?_ n)
      unfold coreLast
      rw [if_pos (show [s].length = 1 from rfl)]
      have P : ∀ x, 0 ≤ x → x < s → (waveI (cWv (halfI [s]) (rowW o [s] (o.length + 0)) x) (rowW o [s] (o.length + 0)).s = v ↔ x = v) := fun x a b => by
        rw [cWv_1, rowW_s]
        show waveI x s = v ↔ x = v
        rw [wave_id a b]
      by_cases hv : v ≤ st
      · rw [if_pos hv]
        refine ⟨fun x e => ?_, fun y a b c => ⟨v, rfl, ?_⟩⟩
        · cases e; exact ⟨v0, hv, (P v v0 v1).mpr rfl⟩
        · have := (P y a (by omega)).mp c; omega
      · rw [if_neg hv]
        refine ⟨fun x e => (by cases e), fun y a b c => ?_⟩
        have := (P y a (by omega)).mp c; omega
    | a :: b :: t, hi, hp, h2, h1, v1, I => exact absurd (by simp) h2
theorem kOf_0 {i : List Int} (hi : SzB i) : kOf i 0 = 0 := by
  have hp := Cor.many_pos (corOf_ok hi)
  by_cases h2 : 2 ≤ i.length
  · exact Msh.left_zero (mshOf_ok h2 hi) (kOf_left h2 hi (Int.le_refl 0) hp)
  · match i, h2 with
    | [], _ => show (0 : Int) - rightsI (halfI []) 0 1 = 0; rw [rights_R1 rfl]; rfl
    | [s], _ => show (0 : Int) - rightsI (halfI [s]) 0 1 = 0; rw [rights_R1 rfl]; rfl
    | a :: b :: t, h2 => exact absurd (by simp) h2
theorem coreLast_top {i : List Int} (hi : SzB i) (p : Nat) (v : Int) : coreLast i p v ((corOf i).many - 1) (corOf i).top = coreLast i p v ((corOf i).many - 1) (kOf i ((corOf i).many - 1)) := by
  by_cases h2 : 2 ≤ i.length
  · rw [top_eq hi h2]
  · match i, h2 with
    | [], _ => show coreLast [] p v 0 0 = coreLast [] p v 0 (0 - rightsI (halfI []) 0 1); rw [rights_R1 rfl]; rfl
    | [s], _ => rfl
    | a :: b :: t, h2 => exact absurd (by simp) h2
theorem fullN {i : List Int} (hi : SzB i) : FullN i := by
  intro p v hp v0 v1
  have hc := Cor.many_pos (corOf_ok hi)
  have I := row_in (o := []) hi (k := ([] : List Int).length + p) (by omega) (by show _ < 0 + i.length; simp; exact hp)
  have v1' := v1
  rw [← rowW_s (o := [])] at v1'
  constructor
  · have := core_next (o := []) hi hp v0 v1 (Int.le_refl 0) hc
    rw [kOf_0 hi] at this
    rw [this]; exact inner_full1 I v0 v1'
  · rw [coreLast_top hi, core_last (o := []) hi hp v0 v1 (by omega) (by omega)]
    exact inner_fullb I v0 v1'
theorem plan_next {o i : List Int} (ho : SzB o) (hi : SzB i) {d : Nat} (hd : d < o.length + i.length) {v st : Int} (v0 : 0 ≤ v) (v1 : v < (o ++ i).getD d 0) (h0 : 0 ≤ st) (h1 : st < (corOf i).many * pr o) : planNext o i d v st (kOf i (st % (corOf i).many)) = seekI o i d v st 1 := by
  have hc := Cor.many_pos (corOf_ok hi)
  unfold planNext seekI
  by_cases h : d < o.length
  · obtain ⟨O, e⟩ := row_out ho hi h
    rw [if_pos h, if_pos O.sd]
    rw [← row_sz hd] at v1
    rw [e] at h1
    have n1 := pOn_next (h := halfI i) (M := (corOf i).many) O v0 v1 h0 h1
    have n2 := outer_next (h := halfI i) (M := (corOf i).many) O v0 v1 h0 h1
    have er : rowW o i d = ⟨2, spanI o (corOf i).many d, o.getD d 0, (o.getD d 0 - 1) * pr (o.take d)⟩ := by unfold rowW; rw [if_pos h]
    rw [← n1.un n2, ← e, er]
    rfl
  · obtain ⟨p, rfl⟩ : ∃ p, d = o.length + p := ⟨d - o.length, by omega⟩
    have hp : p < i.length := by omega
    have I := row_in (o := o) hi (k := o.length + p) (by omega) hd
    rw [if_neg h, if_neg I.sd, Nat.add_sub_cancel_left]
    obtain ⟨e, r0, r1⟩ := lap_rest st hc
    have er : st - st / (corOf i).many * (corOf i).many = st % (corOf i).many := by omega
    have c1 := coreVal_lt hi hp v (st / (corOf i).many)
    have c2 := coreVal_lt hi hp v (st / (corOf i).many + 1)
    unfold seekW
    rw [er, core_next (o := o) hi hp c1.1 c1.2 r0 r1, coreVal_eq (o := o) hi hp, coreVal_eq (o := o) hi hp]
    cases hq : innerI (halfI i) (rowW o i (o.length + p)) (cvW (rowW o i (o.length + p)) v (st / (corOf i).many)) (st % (corOf i).many) 1 with
    | some x => rfl
    | none =>
      dsimp only
      have c0 : 0 ≤ st / (corOf i).many := Int.ediv_nonneg h0 (by omega)
      have k0 := core_next (o := o) hi hp c2.1 c2.2 (Int.le_refl 0) hc
      rw [kOf_0 hi, coreVal_eq (o := o) hi hp] at k0
      unfold seekN
      by_cases hz : (corOf i).many * pr o ≤ (st / (corOf i).many + 1) * (corOf i).many
      · rw [if_pos hz, if_pos (.inr hz)]
      · rw [if_neg hz, if_neg (by omega), k0]
        have eb : begW (corOf i).many 1 = 0 := by unfold begW; rw [if_neg (by decide), Int.mul_zero]
        have cb := cvW_bd I v (st / (corOf i).many + 1)
        obtain ⟨x, hx⟩ := inner_full1 I cb.1 cb.2
        rw [eb, hx]; rfl
theorem plan_last {o i : List Int} (ho : SzB o) (hi : SzB i) {d : Nat} (hd : d < o.length + i.length) {v st : Int} (v0 : 0 ≤ v) (v1 : v < (o ++ i).getD d 0) (h0 : 0 ≤ st) (h1 : st < (corOf i).many * pr o) : planLast o i d v st (kOf i (st % (corOf i).many)) = seekI o i d v st (-1) := by
  have hc := Cor.many_pos (corOf_ok hi)
  unfold planLast seekI
  by_cases h : d < o.length
  · obtain ⟨O, e⟩ := row_out ho hi h
    rw [if_pos h, if_pos O.sd]
    rw [← row_sz hd] at v1
    rw [e] at h1
    have n1 := pBk_last (h := halfI i) (M := (corOf i).many) O v0 v1 h0
    have n2 := outer_last (h := halfI i) (M := (corOf i).many) O v0 v1 h0 h1
    have er : rowW o i d = ⟨2, spanI o (corOf i).many d, o.getD d 0, (o.getD d 0 - 1) * pr (o.take d)⟩ := by unfold rowW; rw [if_pos h]
    rw [← n1.un n2, er]
    rfl
  · obtain ⟨p, rfl⟩ : ∃ p, d = o.length + p := ⟨d - o.length, by omega⟩
    have hp : p < i.length := by omega
    have I := row_in (o := o) hi (k := o.length + p) (by omega) hd
    rw [if_neg h, if_neg I.sd, Nat.add_sub_cancel_left]
    obtain ⟨e, r0, r1⟩ := lap_rest st hc
    have er : st - st / (corOf i).many * (corOf i).many = st % (corOf i).many := by omega
    have c1 := coreVal_lt hi hp v (st / (corOf i).many)
    have c2 := coreVal_lt hi hp v (st / (corOf i).many - 1)
    have c0 : 0 ≤ st / (corOf i).many := Int.ediv_nonneg h0 (by omega)
    unfold seekW
    rw [er, core_last (o := o) hi hp c1.1 c1.2 r0 r1, coreVal_eq (o := o) hi hp, coreVal_eq (o := o) hi hp]
    cases hq : innerI (halfI i) (rowW o i (o.length + p)) (cvW (rowW o i (o.length + p)) v (st / (corOf i).many)) (st % (corOf i).many) (-1) with
    | some x => rfl
    | none =>
      dsimp only
      have k0 := core_last (o := o) hi hp c2.1 c2.2 (st := (corOf i).many - 1) (by omega) (by omega)
      rw [← coreLast_top hi, coreVal_eq (o := o) hi hp] at k0
      unfold seekN
      rw [show st / (corOf i).many + -1 = st / (corOf i).many - 1 by omega]
      by_cases hz : st / (corOf i).many = 0
      · rw [if_pos hz, if_pos (by omega)]
      · have e2 : (st / (corOf i).many - 1) * (corOf i).many = st / (corOf i).many * (corOf i).many - (corOf i).many := by rw [Int.sub_mul, Int.one_mul]
        rw [if_neg hz, if_neg (by omega), k0]
        have eb : begW (corOf i).many (-1) = (corOf i).many - 1 := by unfold begW; rw [if_pos rfl, Int.mul_one]
        have cb := cvW_bd I v (st / (corOf i).many - 1)
        obtain ⟨x, hx⟩ := inner_fullb I cb.1 cb.2
        rw [eb, hx]; rfl
/-! ### the program's rows are the law's -/
theorem nest_vals {o i : List Int} (ho : SzB o) (hi : SzB i) {st : Int} (h0 : 0 ≤ st) : nestVals o i st (kOf i (st % (corOf i).many)) (corOf i).top = (List.range (o.length + i.length)).map fun d => showsI o i d st := by
  have hc := Cor.many_pos (corOf_ok hi)
  obtain ⟨e, r0, r1⟩ := lap_rest st hc
  have l1 : (ovR o.reverse (st / (corOf i).many)).reverse.length = o.length := by rw [List.length_reverse, ovR_len, List.length_reverse]
  apply List.ext_getElem?
  intro d
  unfold nestVals
  by_cases hd : d < o.length + i.length
  · rw [List.getElem?_map, List.getElem?_range hd]
    show _ = some (showsI o i d st)
    by_cases h : d < o.length
    · have hr : ∀ n ∈ o.reverse, 2 ≤ n := fun n hn => ho.two n (List.mem_reverse.mp hn)
      have s2 := (ho.get h).1
      have eg := getD_get h
      have hj : o.length - 1 - d < o.reverse.length := by rw [List.length_reverse]; omega
      have es : o.reverse[o.length - 1 - d] = o[d] := by rw [List.getElem_reverse]; congr 1; omega
      have p1 := (ho.drop (d + 1)).pos
      rw [List.getElem?_append_left (by rw [l1]; exact h), List.getElem?_reverse (by rw [ovR_len, List.length_reverse]; exact h), ovR_len, List.length_reverse, ovR_get hj]
      congr 1
      unfold ovAt
      rw [restAt_s hj, restAt_pr hr _ _ (by omega), take_rev_pr h, getD_get hj, es]
      unfold showsI showsW
      have er : rowW o i d = ⟨2, spanI o (corOf i).many d, o.getD d 0, (o.getD d 0 - 1) * pr (o.take d)⟩ := by unfold rowW; rw [if_pos h]
      have hs := spanI_pos ho hc d
      rw [er, if_pos rfl]
      show _ = (st / spanI o (corOf i).many d - st / (spanI o (corOf i).many d * o.getD d 0)) % o.getD d 0
      rw [eg, ← Int.ediv_ediv_of_nonneg (show 0 ≤ spanI o (corOf i).many d by omega), Int.emod_sub_emod]
      unfold spanI
      rw [← Int.ediv_ediv_of_nonneg (show 0 ≤ (corOf i).many by omega)]
    · obtain ⟨p, rfl⟩ : ∃ p, d = o.length + p := ⟨d - o.length, by omega⟩
      have hp : p < i.length := by omega
      have I := row_in (o := o) hi (k := o.length + p) (by omega) hd
      rw [List.getElem?_append_right (by rw [l1]; omega), l1, Nat.add_sub_cancel_left]
      unfold turnL
      rw [List.getElem?_map, List.getElem?_range hp]
      show some _ = some _
      congr 1
      show (((corOf i).vals (st % (corOf i).many) (kOf i (st % (corOf i).many))).getD p 0 + st / (corOf i).many * ((corOf i).vals ((corOf i).many - 1) (corOf i).top).getD p 0) % i.getD p 0 = _
      rw [cor_vals (o := o) hi r0 r1 hp]
      have em : ((corOf i).vals ((corOf i).many - 1) (corOf i).top).getD p 0 = (rowW o i (o.length + p)).e := moved_e hi hp
      rw [em]
      unfold showsI
      rw [shows_in I, rowW_s]
  · rw [List.getElem?_eq_none (by rw [List.length_append, l1, turnL_len]; omega), List.getElem?_eq_none (by simp; omega)]
end Sd

namespace Sd
open PySem PySem.Spec L2
open PyProof.Rows (envOfC)

/-! ### a comprehension whose list is the def's own -/
section
variable {X : Cx} {W : WX} {CU : Addr} {ρ ρ' ρ1 : List Sl} {d : D} {ds ys : List D} {tg it e : Expr} {pos : Pos} {vs : List Nat}
theorem lc_readN {g : TG} {te : TE} {es : Nat → D} {R1 : Nat → List Sl} (hy : ys.length ≤ 100000) (ht : ∀ (i : Nat) d, ys[i]? = some d → TgV g vs (inBlk ρ vs) d (R1 i)) (hte : ∀ (i : Nat) σ H Q, i < ys.length → tD (R1 i) (es i) σ H Q → te σ H Q) (σ : St) (H : Hp) (Q : VK)
    (h : tN ρ ((List.range ys.length).map es) σ H Q) : tLc (tI ρ ys) g tYes te vs σ H Q := by
  obtain ⟨B, M0, b, P, S, k⟩ := h
  refine ⟨B, M0, b, P, S, fun J H1 G S1 uG good D hD => ?_⟩
  obtain ⟨M1, O1⟩ := S1.opn
  have m1D : M1 D = none := O1.c.sub.free hD
  refine ⟨fun i m H => m = ys.length - i ∧ i ≤ ys.length ∧ ∃ M' acc, Core H1 M1 none M' H ∧ M' D = none ∧ H D = some (.lst acc) ∧ AtL M' ((List.range i).map es) acc, ⟨_, rfl, Nat.zero_le _, M1, [], ⟨fun a u ha => ?_, Ex.refl _, fun _ _ => rfl, fun a u ha _ => ?_, fun a ha => ?_⟩, m1D, upd_same, rfl⟩, ?_⟩
  · rw [upd_ne (fun z => by rw [z, m1D] at ha; cases ha)]; exact O1.c.sub a u ha
  · rw [upd_ne (fun z => by rw [z, hD] at ha; cases ha)]; exact ha
  · rw [upd_ne (fun z => ha (by rw [z]; exact hD))]; exact ha
  rintro i m H2 ⟨rfl, hi, M', acc, c, mD, hDa, aa⟩
  obtain ⟨g1, g2⟩ := good M' H2 (uG _ _ c.old O1.p.1) c.sub
  by_cases hlt : i < ys.length
  · have hyi : ys[i]? = some ys[i] := List.getElem?_eq_getElem hlt
    obtain ⟨j1, j2⟩ := g1 i _ hyi
    refine .inr ⟨j1, fun H3 => ∃ M3 acc3, Core H1 M1 none M3 H3 ∧ M3 D = none ∧ H3 D = some (.lst acc3) ∧ AtL M3 ((List.range (i + 1)).map es) acc3, fun H3 p => ⟨ys.length - (i + 1), by omega, rfl, hlt, p⟩, fun x H3 hy3 => ?_⟩
    obtain ⟨M3, c3, a3⟩ := j2 x H3 hy3
    have c13 := c.trans c3
    have hD3 : H3 D = some (.lst acc) := c3.keep D _ hDa (fun z => by cases z)
    have m3D : M3 D = none := (c3.eq D (by rw [hDa]; exact fun z => by cases z)).trans mD
    have Sb : StV H3 M3 none (inBlk ρ vs) (fun M => At M ys[i] x ∧ True) (wipe σ vs) H3 := by
      refine ⟨⟨M3, Core.refl c3.sub, ⟨a3, trivial⟩, fun j s hj => ?_⟩, (Up.at _ _).and Up.true, by rw [inBlk_len, wipe_length]; exact S1.len, fun j l d e hjl h1 h2 => ?_, fun j l d e h1 h2 => ?_⟩
      · rcases inBlk_get hj with e | ⟨n1, d, e, hd⟩
        · subst e; trivial
        · subst e
          obtain ⟨v, hv, av⟩ := O1.s j _ hd
          exact ⟨v, by rw [wipe_at, if_neg n1]; exact hv, av.up c13.old⟩
      · rcases inBlk_get h1 with e | ⟨_, d, e, _⟩ <;> cases e
      · rcases inBlk_get h1 with e | ⟨_, d, e, _⟩ <;> cases e
    refine ht i _ hyi H3 M3 none _ (wipe σ vs) H3 x Sb Up.true _ fun σ4 H4 S4 e1 e2 => ⟨?_, ?_⟩
    · rw [wipe_eq e2 e1, wipe_wipe]
    · show te σ4 H4 _
      refine hte i σ4 H4 _ hlt ⟨H3, M3, none, _, S4, fun y H5 S5 => ?_⟩
      obtain ⟨M5, O5⟩ := S5.opn
      have hD5 : H5 D = some (.lst acc) := O5.c.keep D _ hD3 (fun z => by cases z)
      have m5D : M5 D = none := (O5.c.eq D (by rw [hD3]; exact fun z => by cases z)).trans m3D
      have c15 := c13.trans O5.c
      have la : acc.length = i := by rw [← aa.len]; simp
      refine ⟨acc, hD5, by rw [la]; exact Nat.lt_of_lt_of_le (by omega : i < 100000) (by decide), M5, acc ++ [y], ⟨fun a u ha => ?_, c15.old, c15.eq, fun a u ha hb => ?_, fun a ha => ?_⟩, m5D, upd_same, ?_⟩
      · rw [upd_ne (fun z => by rw [z, m5D] at ha; cases ha)]; exact c15.sub a u ha
      · rw [upd_ne (fun z => by rw [z, hD] at ha; cases ha)]; exact c15.keep a u ha hb
      · rw [upd_ne (fun z => ha (by rw [z]; exact hD))]; exact c15.there a ha
      · rw [List.range_succ, List.map_append]
        exact (aa.up (c3.old.trans O5.c.old)).append ⟨y, [], rfl, O5.p.1, rfl⟩
  · have e : i = ys.length := by omega
    subst e
    have c6 : Core H1 M1 none M' (fun a => if a = D then none else H2 a) := ⟨fun a u ha => by
      have : a ≠ D := fun z => by rw [z, mD] at ha; cases ha
      show (if a = D then none else H2 a) = _
      rw [if_neg this]; exact c.sub a u ha, c.old, c.eq, fun a u ha hb => by
      have : a ≠ D := fun z => by rw [z, hD] at ha; cases ha
      show (if a = D then none else H2 a) = _
      rw [if_neg this]; exact c.keep a u ha hb, fun a ha => by
      have : a ≠ D := fun z => ha (by rw [z]; exact hD)
      show (if a = D then none else H2 a) ≠ _
      rw [if_neg this]; exact c.there a ha⟩
    have eH : H2 = upd (fun a => if a = D then none else H2 a) D (.lst acc) := by
      funext a
      by_cases z : a = D
      · subst z; rw [upd_same]; exact hDa
      · rw [upd_ne z, if_neg z]
    refine .inl ⟨g2, ?_⟩
    rw [eH]
    exact k D acc _ ((S1.back O1 c6 (Up.atL ((List.range ys.length).map es) acc) aa).imp ((Up.atL _ _).and S.up) fun _ _ q => ⟨q.1, q.2.2⟩) (if_pos rfl)
theorem s_lcO {elt : Expr} {scope : Scope} {n : Nat} {y : Str} {py spos : Pos} (i : Nat) (own : List (Str × Nat)) {g : TG} (es : Nat → D) (R1 : Nat → List Sl) (hc : X.calm = true) (hN : X.N.Nodup) (hyN : X.N[i]? = some y) (hyl : X.env.scope.names.lookup y = some .local)
    (hsw : swapsWith (.ListComp elt [⟨tg, it, [], 0⟩] scope pos) (some (.Name y py)) spos.line X.env = pure true) (hi : PI X tg it (tI ρ ys)) (ok : BlkOk X.N X.env.scope scope own) (hy : ys.length ≤ 100000)
    (hg : ∀ (s : Shared) (H : Hp) (C : Addr) (cl : List (Str × Addr)) (fp : List Addr), PG (X.blk s H scope (compEnvC scope cl C X.env) fp) tg g) (ht : ∀ (i : Nat) d, ys[i]? = some d → TgV g (own.map (·.2)) (inBlk ρ (own.map (·.2))) d (R1 i))
    (he : ∀ (s : Shared) (H : Hp) (C : Addr) (cl : List (Str × Addr)) (fp : List Addr) (i : Nat), i < ys.length → PE (X.blk s H scope (compEnvC scope cl C X.env) fp) elt (tD (R1 i) (es i))) (hs : ∀ x, foldedSetIterable it X.env x = pure x := by intro _; rfl) :
    PS X (.Assign [.Name y py] (.ListComp elt [⟨tg, it, [], 0⟩] scope pos) spos) (tS W CU ρ (.nx (ρ.set i (.own (.lst ((List.range ys.length).map es)))))) :=
  ps_imp (ps_setLc hc hN hyN hyl hsw hi ok hg (fun _ _ _ _ _ => pts_nil) (fun s H C cl fp => pe_turns (he s H C cl fp)) hs) fun D σ H ⟨B, M0, b, P, S, k⟩ =>
    lc_readN hy ht (fun i σ H Q hi q => ⟨i, hi, q⟩) σ H _ ⟨B, M0, b, P, S, fun p vs H2 S2 hp => k _ _ (S2.setOwn S.up hp i)⟩
end
section
variable {X : Cx} {W : WX} {CU : Addr} {ρ : List Sl} {d : D} {ys : List D} {it elt : Expr} {pos p : Pos} {x : Str} {scope : Scope}
theorem s_lcNO (n : Nat) (es : Nat → D) (nd : X.N.Nodup) {y : Str} {py spos : Pos} (i : Nat) (hi : PI X (.Name x p) it (tI ρ ys)) (hy : ys.length ≤ 100000) (he : ∀ (s : Shared) (H : Hp) (C : Addr) (cl : List (Str × Addr)) (fp : List Addr) (i : Nat) d, ys[i]? = some d → PE (X.blk s H scope (compEnvC scope cl C X.env) fp) elt (tD ((inBlk ρ [n]).set n (.val d)) (es i)))
    (hyN : X.N[i]? = some y := by rfl) (hyl : X.env.scope.names.lookup y = some .local := by rfl) (hsw : swapsWith (.ListComp elt [⟨.Name x p, it, [], 0⟩] scope pos) (some (.Name y py)) spos.line X.env = pure true := by rfl)
    (ok : BlkOk X.N X.env.scope scope [(x, n)] := by exact ⟨rfl, of_decide_eq_true (by kernel_rfl), of_decide_eq_true (by kernel_rfl), of_decide_eq_true (by kernel_rfl), of_decide_eq_true (by kernel_rfl)⟩) (hc : X.calm = true := by rfl) (hN : X.N[n]? = some x := by rfl)
    (hf : ∀ (s : Shared) (H : Hp) (C : Addr) (cl : List (Str × Addr)) (fp : List Addr), PG (X.blk s H scope (compEnvC scope cl C X.env) fp) (.Name x p) (gName n) := by exact fun s H C cl fp => pg_name (by assumption) (by rfl) (Or.inl rfl))
    (hs : ∀ x, foldedSetIterable it X.env x = pure x := by intro _; rfl) : PS X (.Assign [.Name y py] (.ListComp elt [⟨.Name x p, it, [], 0⟩] scope pos) spos) (tS W CU ρ (.nx (ρ.set i (.own (.lst ((List.range ys.length).map es)))))) :=
  s_lcO (n := 0) (ys := ys) i [(x, n)] es (fun i => (inBlk ρ [n]).set n (.val (ys.getD i .non))) hc nd hyN hyl hsw hi ok hy hf (fun i d hi => by
    have e : ys.getD i .non = d := by rw [List.getD_eq_getElem?_getD, hi]; rfl
    show TgV _ _ _ _ ((inBlk ρ [n]).set n (.val (ys.getD i .non)))
    rw [e]; exact tv_name (List.mem_singleton.mpr rfl)) (fun s H C cl fp i hi => he s H C cl fp i _ (by rw [List.getD_eq_getElem?_getD, List.getElem?_eq_getElem hi]; rfl)) hs
end
end Sd

namespace Sd
open PySem PySem.Spec L2
open PyProof.Rows (envOfC)

section
variable {X : Cx} {ρ : List Sl} {ds : List D} {e1 : Expr} {pos p : Pos}
/-- tuple of a tuple -/
theorem x_tupT (hm : X.mg "tuple" = none) (h1 : PE X e1 (tD ρ (.tup ds))) (hg : Gl X "tuple" := by rfl) (hs : starEach (e1 :: []) X.env = (false, eval e1 X.env) :: starEach [] X.env := by rfl) (hp : (backTo pos (starEach [] X.env)).any (·.1) = false := by rfl) : PE X (.Call (.Name "tuple" p) [e1] [] pos) (tD ρ (.tup ds)) :=
  x_bltT (call_tuple_of (X := X)) (fun B M0 b ρ P σ H vs S uP Q k => by
    obtain ⟨M, O⟩ := S.opn
    obtain ⟨x, e, a, xs, ex, hx, ax⟩ := atL_1 O.p.1
    subst ex; subst e
    refine ⟨a, xs, rfl, .inr ⟨.inl (O.c.sub.rd hx), ?_⟩⟩
    exact k _ H (S.imp ((Up.at _ _).and uP) fun _ _ q => ⟨by obtain ⟨y, e, h⟩ := atL_1 q.1; cases e; exact h, q.2⟩)) hm (by decide +kernel) (a_cons h1 a_nil hs) hg (by decide) (by decide) hs hp
end
/-! ### early, late -/
structure LsQ (o i tour view : List Int) (es : List Int) : Prop where
  el : es.length ≤ tour.length
  turn : ∀ (j : Nat) (h1 : j < tour.length) (h2 : j < view.length), j ≤ es.length → seekI o i tour[j].toNat view[j] (prevS 0 es j) 1 = es[j]?
  bd : ∀ j, j ≤ es.length → 0 ≤ prevS 0 es j ∧ Bd 1700 (prevS 0 es j)
structure LbQ (o i tour view : List Int) (bs : List Int) : Prop where
  el : bs.length ≤ tour.length
  turn : ∀ (j : Nat) (h0 : j < tour.length) (h1 : tour.length - 1 - j < tour.length) (h2 : tour.length - 1 - j < view.length), j ≤ bs.length → seekI o i tour[tour.length - 1 - j].toNat view[tour.length - 1 - j] (prevS ((corOf i).many * pr o - 1) bs j) (-1) = bs[j]?
  bd : ∀ j, j ≤ bs.length → 0 ≤ prevS ((corOf i).many * pr o - 1) bs j ∧ Bd 1700 (prevS ((corOf i).many * pr o - 1) bs j)
structure TvOk (o i tour view : List Int) : Prop where
  n : tour.length ≤ 1000
  vl : view.length = tour.length
  t : ∀ (j : Nat) (h : j < tour.length), ∃ k : Nat, tour[j] = (k : Int) ∧ k < o.length + i.length
  v : ∀ (j : Nat) (h : j < view.length), Bd 1700 view[j]
def unsD (k : Int) : D := .tup [.str "unseen", .int k]
def earlyD (es : List Int) (n : Nat) : D := if es.length = n then .tup (dInts es) else unsD es.length
def lateD (bs : List Int) (n : Nat) : D := if bs.length = n then .tup (dInts bs.reverse) else unsD ((n : Int) - 1 - bs.length)
def eaS (es : List Int) (j : Nat) : Sl := if j ≤ es.length then .own (.lst (dInts (es.take j))) else .val (unsD es.length)
def eaT (s0 : Int) (es : List Int) (j : Nat) : D := if j ≤ es.length then .int (prevS s0 es j) else .non
def lateL (bs : List Int) (n j : Nat) : List D := (List.range n).map fun p => D.int (if n ≤ p + j then bs.getD (n - 1 - p) 0 else 0)
def laS (bs : List Int) (n j : Nat) : Sl := if j ≤ bs.length then .own (.lst (lateL bs n j)) else .val (unsD ((n : Int) - 1 - bs.length))
theorem lateL_len (bs : List Int) (n j : Nat) : (lateL bs n j).length = n := by simp [lateL]
theorem lateL_0 (bs : List Int) (n : Nat) : lateL bs n 0 = (List.range n).map fun _ => D.int 0 := by
  unfold lateL
  apply List.map_congr_left
  intro p hp
  have := List.mem_range.mp hp
  rw [if_neg (by omega)]
theorem lateL_get {bs : List Int} {n j p : Nat} (h : p < n) : (lateL bs n j)[p]? = some (.int (if n ≤ p + j then bs.getD (n - 1 - p) 0 else 0)) := by
  unfold lateL; rw [List.getElem?_map, List.getElem?_range h]; rfl
theorem lateL_s {bs : List Int} {n j : Nat} (h : j < bs.length) (hn : j < n) : (lateL bs n j).set (n - 1 - j) (.int bs[j]) = lateL bs n (j + 1) := by
  apply List.ext_getElem?
  intro p
  by_cases hp : p < n
  · rw [lateL_get hp]
    by_cases e : n - 1 - j = p
    · subst e
      rw [List.getElem?_set_self (by rw [lateL_len]; exact hp), if_pos (by omega), show n - 1 - (n - 1 - j) = j by omega, getD_get h]
    · rw [List.getElem?_set_ne e, lateL_get hp]
      by_cases e2 : n ≤ p + j
      · rw [if_pos e2, if_pos (by omega)]
      · rw [if_neg e2, if_neg (by omega)]
  · rw [List.getElem?_eq_none (by rw [List.length_set, lateL_len]; omega), List.getElem?_eq_none (by rw [lateL_len]; omega)]
theorem lateL_n {bs : List Int} : lateL bs bs.length bs.length = dInts bs.reverse := by
  apply List.ext_getElem?
  intro p
  by_cases hp : p < bs.length
  · rw [lateL_get hp, if_pos (by omega), List.getElem?_map, List.getElem?_reverse hp, List.getElem?_eq_getElem (by omega), getD_get (by omega)]; rfl
  · rw [List.getElem?_eq_none (by rw [lateL_len]; omega), List.getElem?_eq_none (by simp; omega)]
theorem optD_at {es : List Int} {j : Nat} (h : j < es.length) : optD es[j]? = .int es[j] := by rw [List.getElem?_eq_getElem h]; rfl
theorem optD_end {es : List Int} : optD es[es.length]? = .non := by rw [List.getElem?_eq_none (Nat.le_refl _)]; rfl
/-! ### _law_spans -/
def F_law_spans (ds : List D) (r : Res) : Prop := ∃ (o i tour view : List Int) (dv : D) (es bs : List Int), ds = [worldD o i, .tup (dInts tour), dv] ∧ r = .ok (.tup [earlyD es tour.length, lateD bs tour.length]) ∧ SqD view dv ∧ WOk o i ∧ FullL o i ∧ TvOk o i tour view ∧ LsQ o i tour view es ∧ LbQ o i tour view bs
theorem sc_law_spans : FnScope ["_law_world_here", "_law_tour", "_law_view", "_law_early", "_law_stage", "_law_k", "_law_late", "_law_dial"] ["_law_world_here", "_law_tour", "_law_view"] (defScope s_law_spans) := ⟨rfl, rfl, rfl, by decide +kernel, rfl, by decide +kernel, by decide +kernel⟩
theorem fo_law_spans {Y : Wo} (hh : Y.hd) : Fo Y 6 "_law_spans" ["_law_world_here", "_law_tour", "_law_view"] F_law_spans := by
  have nd : (["_law_world_here", "_law_tour", "_law_view", "_law_early", "_law_stage", "_law_k", "_law_late", "_law_dial"] : List Str).Nodup := sc_law_spans.nd
  refine mkF (k := 5) (N := ["_law_world_here", "_law_tour", "_law_view", "_law_early", "_law_stage", "_law_k", "_law_late", "_law_dial"]) hh 64 ds_law_spans sc_law_spans (fun _ _ _ _ _ _ us hl => match us, hl with | [_, _, _], _ => rfl) (by rintro ds r ⟨o, i, tour, view, dv, es, bs, rfl, rfl, qv, W, FL, T, E, B⟩; rfl) ?_
  rintro cdv A outer s H E ds r hr ⟨o, i, tour, view, dv, es, bs, rfl, rfl, qv, W, FL, T, E, B⟩
  have hn := T.n
  have el := E.el
  have bl := B.el
  have vl := T.vl
  refine s_seq (s_setN 3 nd (n_lst (ds := []) a_nil (by decide))) ?_
  refine s_seq (s_set 4 nd x_int) ?_
  refine s_seq (s_forN 5 nd (i_rng1 hh.b_range (x_lenI hh.b_len (x_v 1)) (by omega) (by omega)) (fun j => [.val (worldD o i), .val (.tup (dInts tour)), .val dv, eaS es j, .val (eaT 0 es j), .any, .any, .any]) ⟨.inr rfl, .inr rfl, .inr rfl, .inr rfl, .inr rfl, .inl rfl, .inl rfl, .inl rfl, trivial⟩ (fun j d hj => ?_)) ?_
  · obtain ⟨hl, rfl⟩ := rngD_get hj
    have hl : j < tour.length := by omega
    have ej : (0 : Int) + (j : Int) * 1 = (j : Int) := by omega
    rw [ej]
    by_cases h1 : j ≤ es.length
    · have e1 : eaS es j = .own (.lst (dInts (es.take j))) := if_pos h1
      have e2 : eaT 0 es j = .int (prevS 0 es j) := if_pos h1
      refine s_cast (ρ' := [.val (worldD o i), .val (.tup (dInts tour)), .val dv, .own (.lst (dInts (es.take j))), .val (.int (prevS 0 es j)), .val (.int j), .any, .any]) (by rw [← e1, ← e2]; rfl) ?_
      obtain ⟨kk, ek, hk⟩ := T.t j hl
      have hs := E.turn j hl (by omega) h1
      rw [ek, Int.toNat_natCast] at hs
      have bd := E.bd j h1
      refine s_one (s_ifT (t_is (t_notN (x_v 4)) rfl) (s_seq (s_set (d := optD es[j]?) 4 nd (x_f (fo_law_seek hh) hr (a_cons (x_v 0) (a_cons (x_is (x_ixI (n := j) (x_v 1) (x_v 5) rfl hl) (by rw [ek])) (a_cons (x_ix (d1 := dv) (ds := dInts view) (x_v 2) (x_v 5) qv.sq (atI_int (by omega))) (a_cons (x_v 4) (a_cons x_int a_nil))))) ⟨o, i, kk, view[j], _, 1, rfl, by rw [hs], W, FL, hk, T.v j (by omega), bd.1, bd.2, .inl rfl⟩)) ?_) pss_never)
      by_cases h2 : j < es.length
      · rw [optD_at h2]
        refine s_one (s_ifF (t_is (t_isN (x_v 4)) rfl) pss_never (s_seq (s_app 3 (x_v 4) rfl (.inl rfl) (by rw [dInts_len, List.length_take]; omega)) (s_nil ⟨.inr rfl, .inr rfl, .inr rfl, .inr ?_, .inr ?_, .inl rfl, .inl rfl, .inl rfl, trivial⟩)))
        · show eaS es (j + 1) = Sl.own (.lst (dInts (es.take j) ++ [.int es[j]]))
          rw [show eaS es (j + 1) = .own (.lst (dInts (es.take (j + 1)))) from if_pos (by omega), List.take_succ_eq_append_getElem h2]
          unfold dInts; rw [List.map_append]; rfl
        · rw [show eaT 0 es (j + 1) = .int (prevS 0 es (j + 1)) from if_pos (by omega), prevS_s h2]
      · have e3 : j = es.length := by omega
        subst e3
        rw [optD_end]
        refine s_one (s_ifT (t_is (t_isN (x_v 4)) rfl) (s_seq (s_set (d := unsD es.length) 3 nd (x_tup (a_cons x_str (a_cons (x_v 5) a_nil)) (Nat.le_of_ble_eq_true rfl))) (s_nil ⟨.inr rfl, .inr rfl, .inr rfl, .inr (if_neg (by omega)), .inr (by rw [show eaT 0 es (es.length + 1) = .non from if_neg (by omega)]), .inl rfl, .inl rfl, .inl rfl, trivial⟩)) pss_never)
    · have e1 : eaS es j = .val (unsD es.length) := if_neg h1
      have e2 : eaT 0 es j = .non := if_neg h1
      refine s_cast (ρ' := [.val (worldD o i), .val (.tup (dInts tour)), .val dv, .val (unsD es.length), .val .non, .val (.int j), .any, .any]) (by rw [← e1, ← e2]; rfl) ?_
      exact s_one (s_ifF (t_is (t_notN (x_v 4)) rfl) pss_never (s_nil ⟨.inr rfl, .inr rfl, .inr rfl, .inr (if_neg (by omega)), .inr (by rw [show eaT 0 es (j + 1) = .non from if_neg (by omega)]), .inl rfl, .inl rfl, .inl rfl, trivial⟩))
  rw [rngD_len, Int.toNat_natCast]
  refine s_seq (s_lcNO 7 (fun _ => .int 0) nd 6 (i_tup (x_v 1)) (by rw [dInts_len]; omega) (fun s H C cl fp i d hi => x_int)) ?_
  rw [dInts_len]
  refine s_seq (s_set 4 nd (x_sub (x_w2 (x_v 0) x_int) x_int)) ?_
  refine s_seq (s_forN 5 nd (i_revRg (n := 0) (m := tour.length) hh.b_reversed (rg_1 hh.b_range (x_lenI hh.b_len (x_v 1))) (by omega)) (fun j => [.val (worldD o i), .val (.tup (dInts tour)), .val dv, eaS es tour.length, .val (eaT ((corOf i).many * pr o - 1) bs j), .any, laS bs tour.length j, .any]) ⟨.inr rfl, .inr rfl, .inr rfl, .inr rfl, .inr rfl, .inl rfl, .inr ?_, .inl rfl, trivial⟩ (fun j d hj => ?_)) ?_
  · rw [show laS bs tour.length 0 = .own (.lst (lateL bs tour.length 0)) from if_pos (Nat.zero_le _), lateL_0]
  · obtain ⟨hl, rfl⟩ := rngD_get hj
    have hl : j < tour.length := by omega
    have ej : (0 : Int) + ((((tour.length : Int) - 0).toNat : Nat) : Int) - 1 + (j : Int) * -1 = ((tour.length - 1 - j : Nat) : Int) := by omega
    rw [ej]
    by_cases h1 : j ≤ bs.length
    · have e1 : laS bs tour.length j = .own (.lst (lateL bs tour.length j)) := if_pos h1
      have e2 : eaT ((corOf i).many * pr o - 1) bs j = .int (prevS ((corOf i).many * pr o - 1) bs j) := if_pos h1
      refine s_cast (ρ' := [.val (worldD o i), .val (.tup (dInts tour)), .val dv, eaS es tour.length, .val (.int (prevS ((corOf i).many * pr o - 1) bs j)), .val (.int ((tour.length - 1 - j : Nat) : Int)), .own (.lst (lateL bs tour.length j)), .any]) (by rw [← e1, ← e2]; rfl) ?_
      have hp : tour.length - 1 - j < tour.length := by omega
      obtain ⟨kk, ek, hk⟩ := T.t (tour.length - 1 - j) hp
      have hs := B.turn j hl hp (by omega) h1
      rw [ek, Int.toNat_natCast] at hs
      have bd := B.bd j h1
      refine s_one (s_ifT (t_is (t_notN (x_v 4)) rfl) (s_seq (s_set (d := optD bs[j]?) 4 nd (x_f (fo_law_seek hh) hr (a_cons (x_v 0) (a_cons (x_is (x_ixI (n := tour.length - 1 - j) (x_v 1) (x_v 5) rfl hp) (by rw [ek])) (a_cons (x_ix (d1 := dv) (ds := dInts view) (x_v 2) (x_v 5) qv.sq (atI_int (by omega))) (a_cons (x_v 4) (a_cons (x_neg x_int) a_nil))))) ⟨o, i, kk, view[tour.length - 1 - j], _, -1, rfl, by rw [hs], W, FL, hk, T.v _ (by omega), bd.1, bd.2, .inr rfl⟩)) ?_) pss_never)
      by_cases h2 : j < bs.length
      · rw [optD_at h2]
        refine s_one (s_ifF (t_is (t_isN (x_v 4)) rfl) pss_never (s_seq (s_item (j := tour.length - 1 - j) 6 (x_v 4) (x_v 5) rfl (.inl rfl) ?_) (s_nil ⟨.inr rfl, .inr rfl, .inr rfl, .inr rfl, .inr ?_, .inl rfl, .inr ?_, .inl rfl, trivial⟩)))
        · rw [lateL_len]; exact ixN_nat hp
        · rw [show eaT ((corOf i).many * pr o - 1) bs (j + 1) = .int (prevS ((corOf i).many * pr o - 1) bs (j + 1)) from if_pos (by omega), prevS_s h2]
        · rw [show laS bs tour.length (j + 1) = .own (.lst (lateL bs tour.length (j + 1))) from if_pos (by omega), ← lateL_s h2 hl]; rfl
      · have e3 : j = bs.length := by omega
        subst e3
        rw [optD_end]
        refine s_one (s_ifT (t_is (t_isN (x_v 4)) rfl) (s_seq (s_set (d := unsD ((tour.length : Int) - 1 - bs.length)) 6 nd (x_is (x_tup (a_cons x_str (a_cons (x_v 5) a_nil)) (Nat.le_of_ble_eq_true rfl)) (by unfold unsD; rw [show ((tour.length - 1 - bs.length : Nat) : Int) = (tour.length : Int) - 1 - bs.length by omega]))) (s_nil ⟨.inr rfl, .inr rfl, .inr rfl, .inr rfl, .inr (by rw [show eaT ((corOf i).many * pr o - 1) bs (bs.length + 1) = .non from if_neg (by omega)]), .inl rfl, .inr (if_neg (by omega)), .inl rfl, trivial⟩)) pss_never)
    · have e1 : laS bs tour.length j = .val (unsD ((tour.length : Int) - 1 - bs.length)) := if_neg h1
      have e2 : eaT ((corOf i).many * pr o - 1) bs j = .non := if_neg h1
      refine s_cast (ρ' := [.val (worldD o i), .val (.tup (dInts tour)), .val dv, eaS es tour.length, .val .non, .val (.int ((tour.length - 1 - j : Nat) : Int)), .val (unsD ((tour.length : Int) - 1 - bs.length)), .any]) (by rw [← e1, ← e2]; rfl) ?_
      exact s_one (s_ifF (t_is (t_notN (x_v 4)) rfl) pss_never (s_nil ⟨.inr rfl, .inr rfl, .inr rfl, .inr rfl, .inr (by rw [show eaT ((corOf i).many * pr o - 1) bs (j + 1) = .non from if_neg (by omega)]), .inl rfl, .inr (if_neg (by omega)), .inl rfl, trivial⟩))
  rw [rngD_len, show (((tour.length : Int) - 0).toNat) = tour.length by omega]
  have xE : ∀ {X : Cx} {ρ : List Sl} {p q pos : Pos}, True := fun {_ _ _ _ _} => trivial
  by_cases h1 : es.length = tour.length
  · have e1 : eaS es tour.length = .own (.lst (dInts es)) := by rw [← h1]; exact (if_pos (Nat.le_refl _)).trans (by rw [List.take_length])
    have e1' : earlyD es tour.length = .tup (dInts es) := if_pos h1
    by_cases h2 : bs.length = tour.length
    · have e2 : laS bs tour.length tour.length = .own (.lst (dInts bs.reverse)) := by rw [← h2]; exact (if_pos (Nat.le_refl _)).trans (by rw [lateL_n])
      have e2' : lateD bs tour.length = .tup (dInts bs.reverse) := if_pos h2
      rw [e1, e2, e1', e2']
      exact r_ret (x_tup (a_cons (x_tupM (n := 3) hh.b_tuple (.inl rfl)) (a_cons (x_tupM (n := 6) hh.b_tuple (.inl rfl)) a_nil)) (Nat.le_of_ble_eq_true rfl)) sa
    · have e2 : laS bs tour.length tour.length = .val (unsD ((tour.length : Int) - 1 - bs.length)) := if_neg (by omega)
      have e2' : lateD bs tour.length = unsD ((tour.length : Int) - 1 - bs.length) := if_neg h2
      rw [e1, e2, e1', e2']
      exact r_ret (x_tup (a_cons (x_tupM (n := 3) hh.b_tuple (.inl rfl)) (a_cons (x_tupT hh.b_tuple (x_v 6)) a_nil)) (Nat.le_of_ble_eq_true rfl)) sa
  · have e1 : eaS es tour.length = .val (unsD es.length) := if_neg (by omega)
    have e1' : earlyD es tour.length = unsD es.length := if_neg h1
    by_cases h2 : bs.length = tour.length
    · have e2 : laS bs tour.length tour.length = .own (.lst (dInts bs.reverse)) := by rw [← h2]; exact (if_pos (Nat.le_refl _)).trans (by rw [lateL_n])
      have e2' : lateD bs tour.length = .tup (dInts bs.reverse) := if_pos h2
      rw [e1, e2, e1', e2']
      exact r_ret (x_tup (a_cons (x_tupT hh.b_tuple (x_v 3)) (a_cons (x_tupM (n := 6) hh.b_tuple (.inl rfl)) a_nil)) (Nat.le_of_ble_eq_true rfl)) sa
    · have e2 : laS bs tour.length tour.length = .val (unsD ((tour.length : Int) - 1 - bs.length)) := if_neg (by omega)
      have e2' : lateD bs tour.length = unsD ((tour.length : Int) - 1 - bs.length) := if_neg h2
      rw [e1, e2, e1', e2']
      exact r_ret (x_tup (a_cons (x_tupT hh.b_tuple (x_v 3)) (a_cons (x_tupT hh.b_tuple (x_v 6)) a_nil)) (Nat.le_of_ble_eq_true rfl)) sa
end Sd

namespace Sd
open PySem
/-! ### walks: turn by turn the next stage, the last one -/
theorem prevS_app {s0 x : Int} {es : List Int} {j : Nat} (h : j ≤ es.length) : prevS s0 (es ++ [x]) j = prevS s0 es j := by
  unfold prevS
  by_cases h0 : j = 0
  · rw [if_pos h0, if_pos h0]
  · rw [if_neg h0, if_neg h0, List.getD_eq_getElem?_getD, List.getD_eq_getElem?_getD, List.getElem?_append_left (by omega)]
theorem walk_ex (g : Nat → Int → Option Int) (s0 : Int) (Inv : Int → Prop) (h0 : Inv s0) (n : Nat) (hI : ∀ j st x, j < n → Inv st → g j st = some x → Inv x) : ∀ m, m ≤ n → ∃ es : List Int, es.length ≤ m ∧ (∀ j, j < m → j ≤ es.length → g j (prevS s0 es j) = es[j]?) ∧ ∀ j, j ≤ es.length → Inv (prevS s0 es j)
  | 0, _ => ⟨[], Nat.le_refl _, fun j h => by omega, fun j h => by
    have : j = 0 := by simpa using h
    subst this; exact h0⟩
  | m + 1, hm => by
    obtain ⟨es, a, b, c⟩ := walk_ex g s0 Inv h0 n hI m (by omega)
    by_cases he : es.length = m
    · cases hq : g m (prevS s0 es m) with
      | none =>
        refine ⟨es, by omega, fun j h1 h2 => ?_, c⟩
        by_cases hj : j = m
        · subst hj; rw [hq, List.getElem?_eq_none (by omega)]
        · exact b j (by omega) h2
      | some x =>
        refine ⟨es ++ [x], by rw [List.length_append]; simp; omega, fun j h1 h2 => ?_, fun j h => ?_⟩
        · rw [prevS_app (by omega)]
          by_cases hj : j = m
          · subst hj; rw [hq, List.getElem?_append_right (by omega), he, Nat.sub_self]; rfl
          · rw [List.getElem?_append_left (by omega)]; exact b j (by omega) (by omega)
        · rw [List.length_append] at h
          by_cases hj : j ≤ es.length
          · rw [prevS_app hj]; exact c j hj
          · have ej : j = es.length + 1 := by simp at h; omega
            have : prevS s0 (es ++ [x]) j = x := by
              unfold prevS
              rw [if_neg (by omega), ej, Nat.add_sub_cancel, List.getD_eq_getElem?_getD, List.getElem?_append_right (Nat.le_refl _), Nat.sub_self]; rfl
            rw [this]
            exact hI m _ x (by omega) (c m (by omega)) hq
    · exact ⟨es, by omega, fun j h1 h2 => b j (by omega) h2, c⟩
/-- the looks of a view, in their sizes -/
structure VT (o i tour view : List Int) : Prop where
  n : tour.length ≤ 1000
  vl : view.length = tour.length
  k : ∀ (j : Nat) (h1 : j < tour.length) (h2 : j < view.length), ∃ k : Nat, tour[j] = (k : Int) ∧ k < o.length + i.length ∧ 0 ≤ view[j] ∧ view[j] < (o ++ i).getD k 0
abbrev totI (o i : List Int) : Int := (corOf i).many * pr o
theorem totI_pos {o i : List Int} (W : WOk o i) : 0 < totI o i := Int.mul_pos (Cor.many_pos (corOf_ok W.hi)) W.ho.pos
theorem size_bd {o i : List Int} (W : WOk o i) {k : Nat} (h : k < o.length + i.length) : 2 ≤ (o ++ i).getD k 0 ∧ Bd 41 ((o ++ i).getD k 0) := by
  have hl : k < (o ++ i).length := by rw [List.length_append]; exact h
  rw [getD_get hl]
  have hm := List.getElem_mem hl
  rcases List.mem_append.mp hm with z | z
  · exact ⟨W.ho.two _ z, W.ho.bits _ z⟩
  · exact ⟨W.hi.two _ z, W.hi.bits _ z⟩
theorem VT.tv {o i tour view : List Int} (W : WOk o i) (V : VT o i tour view) : TvOk o i tour view := by
  refine ⟨V.n, V.vl, fun j h => ?_, fun j h => ?_⟩
  · obtain ⟨k, a, b, _⟩ := V.k j h (by have := V.vl; omega)
    exact ⟨k, a, b⟩
  · obtain ⟨k, a, b, c, d⟩ := V.k j (by have := V.vl; omega) h
    exact ((size_bd W b).2.le c (by omega)).mono (by decide)
theorem early_ex {o i tour view : List Int} (W : WOk o i) (V : VT o i tour view) : ∃ es, LsQ o i tour view es ∧ ∀ j, j ≤ es.length → 0 ≤ prevS 0 es j ∧ prevS 0 es j < totI o i := by
  have hT := totI_pos W
  have vl := V.vl
  obtain ⟨es, a, b, c⟩ := walk_ex (fun j st => seekI o i (tour.getD j 0).toNat (view.getD j 0) st 1) 0 (fun s => 0 ≤ s ∧ s < totI o i) ⟨Int.le_refl 0, hT⟩ tour.length (fun j st x hj hs hx => by
    obtain ⟨k, h1, h2, h3, h4⟩ := V.k j hj (by omega)
    rw [getD_get hj, getD_get (show j < view.length by omega), h1, Int.toNat_natCast] at hx
    have := (seekI_next W.ho W.hi h2 h3 h4 hs.1 hs.2).1 x hx
    exact ⟨by omega, this.2.1⟩) tour.length (Nat.le_refl _)
  refine ⟨es, ⟨a, fun j h1 h2 h => ?_, fun j h => ⟨(c j h).1, W.hT.le (c j h).1 (Int.le_of_lt (c j h).2)⟩⟩, c⟩
  have := b j h1 h
  rw [getD_get h1, getD_get h2] at this
  exact this
theorem late_ex {o i tour view : List Int} (W : WOk o i) (V : VT o i tour view) : ∃ bs, LbQ o i tour view bs ∧ ∀ j, j ≤ bs.length → 0 ≤ prevS (totI o i - 1) bs j ∧ prevS (totI o i - 1) bs j < totI o i := by
  have hT := totI_pos W
  have vl := V.vl
  obtain ⟨bs, a, b, c⟩ := walk_ex (fun j st => seekI o i (tour.getD (tour.length - 1 - j) 0).toNat (view.getD (tour.length - 1 - j) 0) st (-1)) (totI o i - 1) (fun s => 0 ≤ s ∧ s < totI o i) ⟨by omega, by omega⟩ tour.length (fun j st x hj hs hx => by
    obtain ⟨k, h1, h2, h3, h4⟩ := V.k (tour.length - 1 - j) (by omega) (by omega)
    rw [getD_get (show tour.length - 1 - j < tour.length by omega), getD_get (show tour.length - 1 - j < view.length by omega), h1, Int.toNat_natCast] at hx
    have := (seekI_last W.ho W.hi h2 h3 h4 hs.1 hs.2).1 x hx
    exact ⟨this.1, by omega⟩) tour.length (Nat.le_refl _)
  refine ⟨bs, ⟨a, fun j h0 h1 h2 h => ?_, fun j h => ⟨(c j h).1, W.hT.le (c j h).1 (Int.le_of_lt (c j h).2)⟩⟩, c⟩
  have := b j h0 h
  rw [getD_get h1, getD_get h2] at this
  exact this
theorem prevS_get {s0 : Int} {es : List Int} {j : Nat} (h : j < es.length) : prevS s0 es (j + 1) = es[j] := prevS_s h
section
variable {o i tour view es bs : List Int} (W : WOk o i) (V : VT o i tour view) (E : LsQ o i tour view es) (Eb : ∀ j, j ≤ es.length → 0 ≤ prevS 0 es j ∧ prevS 0 es j < totI o i)
include W V E Eb
/-- each early stage shows what was seen, is not ahead of the one before -/
theorem es_turn {j : Nat} (h : j < es.length) : ∃ (k : Nat) (h1 : j < tour.length) (h2 : j < view.length), tour[j] = (k : Int) ∧ k < o.length + i.length ∧ prevS 0 es j ≤ es[j] ∧ 0 ≤ es[j] ∧ es[j] < totI o i ∧ showsI o i k es[j] = view[j] := by
  have el := E.el
  have vl := V.vl
  obtain ⟨k, h1, h2, h3, h4⟩ := V.k j (by omega) (by omega)
  have t := E.turn j (by omega) (by omega) (by omega)
  rw [h1, Int.toNat_natCast, List.getElem?_eq_getElem h] at t
  have b := Eb j (by omega)
  have n := (seekI_next W.ho W.hi h2 h3 h4 b.1 b.2).1 _ t
  exact ⟨k, by omega, by omega, h1, h2, n.1, by omega, n.2.1, n.2.2⟩
theorem es_mono {a b : Nat} (hab : a ≤ b) (hb : b < es.length) : ∀ (ha : a < es.length), es[a] ≤ es[b] := by
  induction b with
  | zero => intro ha; have : a = 0 := by omega
            subst this; exact Int.le_refl _
  | succ b ih =>
    intro ha
    by_cases h : a = b + 1
    · subst h; exact Int.le_refl _
    · obtain ⟨_, _, _, _, _, h5, _⟩ := es_turn W V E Eb hb
      rw [prevS_s (show b < es.length by omega)] at h5
      have := ih (by omega) (by omega) ha
      omega
/-- a view of moments that do not fall is seen, not behind them -/
theorem es_seen {ms : List Int} (hl : ms.length = tour.length) (hm : ∀ (j : Nat) (h : j < ms.length), 0 ≤ ms[j] ∧ ms[j] < totI o i) (hmo : ∀ (j : Nat) (h : j + 1 < ms.length), ms[j] ≤ ms[j + 1])
    (hs : ∀ (j k : Nat) (h1 : j < tour.length) (h2 : j < view.length) (h3 : j < ms.length), tour[j] = (k : Int) → view[j] = showsI o i k ms[j]) : es.length = tour.length := by
  have el := E.el
  have vl := V.vl
  have cl : ∀ j, j ≤ tour.length → j ≤ es.length ∧ (∀ (h : j < ms.length), prevS 0 es j ≤ ms[j]) := by
    intro j
    induction j with
    | zero => intro _; exact ⟨Nat.zero_le _, fun h => (hm 0 h).1⟩
    | succ j ih =>
      intro hj
      obtain ⟨a, b⟩ := ih (by omega)
      have hjm : j < ms.length := by omega
      have b := b hjm
      obtain ⟨k, h1, h2, h3, h4⟩ := V.k j (by omega) (by omega)
      have t := E.turn j (by omega) (by omega) a
      rw [h1, Int.toNat_natCast] at t
      have bb := Eb j a
      obtain ⟨x, ex, hx⟩ := (seekI_next W.ho W.hi h2 h3 h4 bb.1 bb.2).2 ms[j] b (hm j hjm).2 (hs j k (by omega) (by omega) hjm h1).symm
      rw [ex] at t
      have hlt : j < es.length := by
        have := (List.getElem?_eq_some_iff.mp t.symm).1
        exact this
      refine ⟨hlt, fun h => ?_⟩
      rw [prevS_s hlt]
      have e : es[j] = x := (List.getElem?_eq_some_iff.mp t.symm).2
      have := hmo j h
      omega
  have := (cl tour.length (Nat.le_refl _)).1
  omega
/-- all of early there: all of late there, not ahead -/
theorem bs_both (B : LbQ o i tour view bs) (Bb : ∀ j, j ≤ bs.length → 0 ≤ prevS (totI o i - 1) bs j ∧ prevS (totI o i - 1) bs j < totI o i) (hf : es.length = tour.length) : bs.length = tour.length := by
  have el := B.el
  have vl := V.vl
  have hT := totI_pos W
  have cl : ∀ j, j ≤ tour.length → j ≤ bs.length ∧ (∀ (m : Nat) (h : m < es.length), m + j < tour.length → es[m] ≤ prevS (totI o i - 1) bs j) := by
    intro j
    induction j with
    | zero =>
      intro _
      refine ⟨Nat.zero_le _, fun m h _ => ?_⟩
      obtain ⟨_, _, _, _, _, _, _, h7, _⟩ := es_turn W V E Eb h
      show es[m] ≤ totI o i - 1
      omega
    | succ j ih =>
      intro hj
      obtain ⟨a, b⟩ := ih (by omega)
      have hp : tour.length - 1 - j < es.length := by omega
      obtain ⟨k, q1, q2, h1, h2, h3, h4, h5, h6⟩ := es_turn W V E Eb hp
      obtain ⟨k', g1, g2, g3, g4⟩ := V.k _ q1 q2
      have ek : k' = k := by rw [h1] at g1; omega
      subst ek
      have t := B.turn j (by omega) q1 q2 a
      rw [h1, Int.toNat_natCast] at t
      have bb := Bb j a
      obtain ⟨x, ex, hx⟩ := (seekI_last W.ho W.hi h2 g3 g4 bb.1 bb.2).2 _ h4 (b _ hp (by omega)) h6
      rw [ex] at t
      have hlt : j < bs.length := (List.getElem?_eq_some_iff.mp t.symm).1
      have e : bs[j] = x := (List.getElem?_eq_some_iff.mp t.symm).2
      refine ⟨hlt, fun m h hm => ?_⟩
      rw [prevS_s hlt, e]
      have := es_mono W V E Eb (a := m) (b := tour.length - 1 - j) (by omega) hp h
      omega
  have := (cl tour.length (Nat.le_refl _)).1
  omega
end
theorem bs_turn {o i tour view bs : List Int} (W : WOk o i) (V : VT o i tour view) (B : LbQ o i tour view bs) (Bb : ∀ j, j ≤ bs.length → 0 ≤ prevS (totI o i - 1) bs j ∧ prevS (totI o i - 1) bs j < totI o i) {j : Nat} (h : j < bs.length) : ∃ (k p : Nat) (h1 : p < tour.length) (h2 : p < view.length), p + 1 + j = tour.length ∧ tour[p] = (k : Int) ∧ k < o.length + i.length ∧ 0 ≤ bs[j] ∧ bs[j] < totI o i ∧ showsI o i k bs[j] = view[p] := by
  have el := B.el
  have vl := V.vl
  obtain ⟨k, h1, h2, h3, h4⟩ := V.k (tour.length - 1 - j) (by omega) (by omega)
  have t := B.turn j (by omega) (by omega) (by omega) (by omega)
  rw [h1, Int.toNat_natCast, List.getElem?_eq_getElem h] at t
  have b := Bb j (by omega)
  have n := (seekI_last W.ho W.hi h2 h3 h4 b.1 b.2).1 _ t
  exact ⟨k, tour.length - 1 - j, by omega, by omega, by omega, h1, h2, n.1, by omega, n.2.2⟩
/-! ### the program walks the same -/
theorem optAt_eq {es : List Int} {j : Nat} : optAt es j = optD es[j]? := by
  unfold optAt
  cases es[j]? <;> rfl
theorem W_of {o i : List Int} (N : NOk o i) : WOk o i := ⟨N.zo, N.zi, N.bM, N.bT⟩
theorem end_nest {Y : Wo} {o i tour view es : List Int} (N : NOk o i) (V : VT o i tour view) (E : LsQ o i tour view es) (Eb : ∀ j, j ≤ es.length → 0 ≤ prevS 0 es j ∧ prevS 0 es j < totI o i) : EndQ (F_TellNest_next_of Y) (planD Y.K o i) tour view 0 es := by
  refine ⟨V.n, V.vl, E.el, fun j h1 h2 h => ?_⟩
  obtain ⟨k, a, b, c, d⟩ := V.k j h1 h2
  have t := E.turn j h1 h2 h
  have bb := Eb j h
  rw [a, Int.toNat_natCast] at t
  have hM := N.pos
  have m0 := Int.emod_nonneg (prevS 0 es j) (show (corOf i).many ≠ 0 by omega)
  have m1 := Int.emod_lt_of_pos (prevS 0 es j) hM
  refine ⟨o, i, k, view[j], prevS 0 es j, kOf i (prevS 0 es j % (corOf i).many), by rw [a], ?_, ⟨N, b, bb.1, bb.2, kOf_cor N.zi m0 m1⟩, fullN N.zi⟩
  rw [plan_next N.zo N.zi b c d bb.1 bb.2, t, optAt_eq]
theorem beg_nest {Y : Wo} {o i tour view bs : List Int} (N : NOk o i) (V : VT o i tour view) (B : LbQ o i tour view bs) (Bb : ∀ j, j ≤ bs.length → 0 ≤ prevS (totI o i - 1) bs j ∧ prevS (totI o i - 1) bs j < totI o i) : BegQ (F_TellNest_last_of Y) (planD Y.K o i) tour view ((corOf i).many * pr o - 1) bs := by
  refine ⟨V.n, V.vl, B.el, fun j p h1 h2 hp h => ?_⟩
  have ep : tour.length - 1 - j = p := by omega
  obtain ⟨k, a, b, c, d⟩ := V.k p h1 h2
  have t := B.turn j (by omega) (by omega) (by omega) h
  have bb := Bb j h
  have e1 : tour[tour.length - 1 - j]'(by omega) = (k : Int) := by rw [← a]; congr 1
  have e2 : view[tour.length - 1 - j]'(by omega) = view[p] := by congr 1
  rw [e1, e2, Int.toNat_natCast] at t
  have hM := N.pos
  have m0 := Int.emod_nonneg (prevS (totI o i - 1) bs j) (show (corOf i).many ≠ 0 by omega)
  have m1 := Int.emod_lt_of_pos (prevS (totI o i - 1) bs j) hM
  refine ⟨o, i, k, view[p], prevS (totI o i - 1) bs j, kOf i (prevS (totI o i - 1) bs j % (corOf i).many), by rw [a], ?_, ⟨N, b, bb.1, bb.2, kOf_cor N.zi m0 m1⟩, fullN N.zi⟩
  rw [plan_last N.zo N.zi b c d bb.1 bb.2, t, optAt_eq]
/-! ### in a core alone -/
theorem seek_core {i : List Int} (hi : SzB i) {p : Nat} (hp : p < i.length) {v st : Int} (v0 : 0 ≤ v) (v1 : v < i.getD p 0) (h0 : 0 ≤ st) (h1 : st < (corOf i).many) : seekI [] i p v st 1 = coreNext i p v st (kOf i st) ∧ seekI [] i p v st (-1) = coreLast i p v st (kOf i st) := by
  have hM := Cor.many_pos (corOf_ok hi)
  have I := row_in (o := []) hi (k := p) (Nat.zero_le _) (by simpa using hp)
  have es : (rowW [] i p).s = i.getD p 0 := by
    have := rowW_s (o := []) (i := i) (p := p)
    simpa using this
  have e1 := core_next (o := []) hi hp v0 v1 h0 h1
  have e2 := core_last (o := []) hi hp v0 v1 h0 h1
  have ep : ([] : List Int).length + p = p := by simp
  rw [ep] at e1 e2
  have q0 : st / (corOf i).many = 0 := Int.ediv_eq_zero_of_lt h0 h1
  have ec : cvW (rowW [] i p) v 0 = v := by
    unfold cvW
    rw [Int.zero_mul, Int.sub_zero, es, Int.emod_eq_of_lt v0 v1]
  have hp1 : pr ([] : List Int) = 1 := rfl
  constructor
  · unfold seekI seekW
    rw [if_neg I.sd, q0, Int.zero_mul, Int.sub_zero, ec, e1]
    cases innerI (halfI i) (rowW [] i p) v st 1 with
    | some x => show some (0 + x) = some x; rw [Int.zero_add]
    | none =>
      dsimp only
      unfold seekN
      rw [if_pos (.inr (by rw [hp1]; omega))]
  · unfold seekI seekW
    rw [if_neg I.sd, q0, Int.zero_mul, Int.sub_zero, ec, e2]
    cases innerI (halfI i) (rowW [] i p) v st (-1) with
    | some x => show some (0 + x) = some x; rw [Int.zero_add]
    | none =>
      dsimp only
      unfold seekN
      rw [if_pos (.inl (by decide))]
theorem totI_core (i : List Int) : totI [] i = (corOf i).many := by show (corOf i).many * 1 = _; omega
theorem end_core {Y : Wo} {i seen es : List Int} (hi : SzB i) (hM : Bd 1700 (corOf i).many) (hl : seen.length = i.length) (V : VT [] i (rgI 0 seen.length) seen) (E : LsQ [] i (rgI 0 seen.length) seen es) (Eb : ∀ j, j ≤ es.length → 0 ≤ prevS 0 es j ∧ prevS 0 es j < totI [] i) : EndC Y i seen es := by
  refine ⟨V.n, V.vl, E.el, fun j h1 h2 h => ?_⟩
  obtain ⟨k, a, b, c, d⟩ := V.k j h1 h2
  have t := E.turn j h1 h2 h
  have bb := Eb j h
  rw [a, Int.toNat_natCast] at t
  rw [totI_core] at bb
  have hk : k < i.length := by simpa using b
  have d' : seen[j] < i.getD k 0 := d
  refine ⟨i, k, seen[j], prevS 0 es j, kOf i (prevS 0 es j), by rw [a], ?_, ⟨hi, hk, c, d', bb.1, hM.le bb.1 (by omega), fun h2 => kOf_left h2 hi bb.1 bb.2⟩⟩
  rw [← (seek_core hi hk c d' bb.1 bb.2).1, t, optAt_eq]
theorem beg_core {Y : Wo} {i seen bs : List Int} (hi : SzB i) (hM : Bd 1700 (corOf i).many) (hl : seen.length = i.length) (V : VT [] i (rgI 0 seen.length) seen) (B : LbQ [] i (rgI 0 seen.length) seen bs) (Bb : ∀ j, j ≤ bs.length → 0 ≤ prevS (totI [] i - 1) bs j ∧ prevS (totI [] i - 1) bs j < totI [] i) : BegC Y i seen bs := by
  show BegQ _ _ _ _ ((corOf i).many - 1) bs
  rw [← totI_core i]
  refine ⟨V.n, V.vl, B.el, fun j p h1 h2 hp h => ?_⟩
  have ep : (rgI 0 seen.length).length - 1 - j = p := by omega
  obtain ⟨k, a, b, c, d⟩ := V.k p h1 h2
  have t := B.turn j (by omega) (by omega) (by omega) h
  have bb := Bb j h
  have e1 : (rgI 0 seen.length)[(rgI 0 seen.length).length - 1 - j]'(by omega) = (k : Int) := by rw [← a]; congr 1
  have e2 : seen[(rgI 0 seen.length).length - 1 - j]'(by omega) = seen[p] := by congr 1
  rw [e1, e2, Int.toNat_natCast] at t
  have bb' : 0 ≤ prevS (totI [] i - 1) bs j ∧ prevS (totI [] i - 1) bs j < (corOf i).many := by rw [totI_core] at bb ⊢; exact bb
  have hk : k < i.length := by simpa using b
  have d' : seen[p] < i.getD k 0 := d
  refine ⟨i, k, seen[p], prevS (totI [] i - 1) bs j, kOf i (prevS (totI [] i - 1) bs j), by rw [a], ?_, ⟨hi, hk, c, d', bb'.1, hM.le bb'.1 (by omega), fun h2 => kOf_left h2 hi bb'.1 bb'.2⟩⟩
  rw [← (seek_core hi hk c d' bb'.1 bb'.2).2, t, optAt_eq]
end Sd

namespace Sd
open PySem
/-! ### the weak reader's copies -/
def wcP (o view : List Int) : Nat → Int
  | 0 => 0
  | j + 1 => wcP o view j * o.getD j 0 + (view.getD j 0 + wcP o view j) % o.getD j 0
theorem wcP_bd {o view : List Int} (ho : SzB o) : ∀ j, j ≤ o.length → 0 ≤ wcP o view j ∧ wcP o view j < pr (o.take j)
  | 0, _ => by show 0 ≤ (0 : Int) ∧ (0 : Int) < 1; decide
  | j + 1, h => by
    obtain ⟨a, b⟩ := wcP_bd (view := view) ho j (by omega)
    have hj : j < o.length := by omega
    have g := ho.get hj
    have e := getD_get hj
    have m0 := Int.emod_nonneg (view.getD j 0 + wcP o view j) (show o[j] ≠ 0 by omega)
    have m1 := Int.emod_lt_of_pos (view.getD j 0 + wcP o view j) (show 0 < o[j] by omega)
    have p1 := Int.mul_le_mul_of_nonneg_right (show wcP o view j + 1 ≤ pr (o.take j) by omega) (show 0 ≤ o[j] by omega)
    have p0 := Int.mul_nonneg a (show 0 ≤ o[j] by omega)
    rw [Int.add_mul, Int.one_mul] at p1
    show 0 ≤ wcP o view j * o.getD j 0 + (view.getD j 0 + wcP o view j) % o.getD j 0 ∧ wcP o view j * o.getD j 0 + (view.getD j 0 + wcP o view j) % o.getD j 0 < _
    rw [e, pr_take hj]
    omega
theorem wcP_B {o view : List Int} (ho : SzB o) {j : Nat} (h : j ≤ o.length) : Bd 1641 (wcP o view j) := by
  obtain ⟨a, b⟩ := wcP_bd (view := view) ho j h
  exact (ho.take j).bd.le a (Int.le_of_lt b)
theorem wk_cp {o i : List Int} (N : NOk o i) (view : List Int) : ∀ j, j ≤ o.length → wkS o view (corOf i).many j = wcP o view j * ((corOf i).many * pr (o.drop j)) ∧ (j < o.length → wkLap o (corOf i).many j (wkS o view (corOf i).many j) = wcP o view j)
  | 0, _ => by
    refine ⟨by show (0 : Int) = 0 * _; rw [Int.zero_mul], fun _ => ?_⟩
    show (0 : Int) / _ = 0
    rw [Int.zero_ediv]
  | j + 1, h => by
    obtain ⟨a, b⟩ := wk_cp N view j (by omega)
    have hj : j < o.length := by omega
    have b := b hj
    have eg := getD_get hj
    have e1 : wkS o view (corOf i).many (j + 1) = wcP o view (j + 1) * ((corOf i).many * pr (o.drop (j + 1))) := by
      show wkS o view (corOf i).many j + wkFi o view (corOf i).many j (wkS o view (corOf i).many j) * spanI o (corOf i).many j = (wcP o view j * o.getD j 0 + (view.getD j 0 + wcP o view j) % o.getD j 0) * _
      unfold wkFi spanI
      rw [b, a, pr_drop hj, ← eg, Int.add_mul (wcP o view j * _), Int.mul_left_comm (corOf i).many, Int.mul_assoc (wcP o view j)]
    refine ⟨e1, fun h2 => ?_⟩
    have g2 := getD_get h2
    have s2 := (N.zo.get h2).1
    have hp := Int.mul_pos N.pos (N.zo.drop (j + 1)).pos
    unfold wkLap
    have e2 : spanI o (corOf i).many (j + 1) * o.getD (j + 1) 0 = (corOf i).many * pr (o.drop (j + 1)) := by
      unfold spanI
      rw [pr_drop h2, g2, Int.mul_assoc, Int.mul_comm (pr _)]
    rw [e1, e2, Int.mul_ediv_cancel _ (by omega)]
theorem wF_eq {o i : List Int} (N : NOk o i) (view : List Int) {j : Nat} (h : j < o.length) : wF o view (corOf i).many j = (view.getD j 0 + wcP o view j) % o.getD j 0 := by
  unfold wF wkFi; rw [(wk_cp N view j (by omega)).2 h]
theorem wL_eq {o i : List Int} (N : NOk o i) (view : List Int) {j : Nat} (h : j < o.length) : wL o view (corOf i).many j = (view.getD (view.length - 1 - j) 0 + wcP o view j) % o.getD j 0 := by
  unfold wL wkLa; rw [(wk_cp N view j (by omega)).2 h]
theorem wk_end {o i : List Int} (N : NOk o i) (view : List Int) : wkS o view (corOf i).many o.length = wcP o view o.length * (corOf i).many := by
  rw [(wk_cp N view o.length (Nat.le_refl _)).1, List.drop_length]
  show _ * (_ * 1) = _
  rw [Int.mul_one]
theorem wkSeen_len {o i view : List Int} {cm : Int} : (wkSeen o i view cm).length = i.length := by simp [wkSeen]
theorem wkSeen_at {o i : List Int} (N : NOk o i) (view : List Int) {p : Nat} (h : p < i.length) : (wkSeen o i view (corOf i).many)[p]'(by rw [wkSeen_len]; exact h) = cvW (rowW o i (o.length + p)) (view.getD (o.length + p) 0) (wcP o view o.length) := by
  have hM := N.pos
  unfold wkSeen
  rw [List.getElem_map, List.getElem_range, coreVal_eq (o := o) N.zi h, wk_end N, Int.mul_ediv_cancel _ (by omega)]
theorem W_core {o i : List Int} (W : WOk o i) : WOk [] i := ⟨⟨by simp, by simp, by simp⟩, W.hi, W.hM, by have := totI_core i; unfold totI at this; rw [this]; exact W.hM⟩
theorem VT_core {o i : List Int} (N : NOk o i) (view : List Int) : VT [] i (rgI 0 i.length) (wkSeen o i view (corOf i).many) := by
  have l2 := N.zi.len
  refine ⟨by rw [rgI_len]; omega, by rw [wkSeen_len, rgI_len], fun j h1 h2 => ?_⟩
  rw [wkSeen_len] at h2
  refine ⟨j, ?_, by simpa using h2, ?_⟩
  · have := rgI_get (a := 0) h2
    rw [List.getElem?_eq_getElem h1] at this
    rw [Option.some.inj this]; omega
  · rw [wkSeen_at N view h2]
    have I := row_in (o := o) N.zi (k := o.length + j) (by omega) (by omega)
    have c := cvW_bd I (view.getD (o.length + j) 0) (wcP o view o.length)
    rw [rowW_s] at c
    exact c
/-- what the weak reader gives, by the law's own walks of the core -/
def WkQ (o i view : List Int) (r : Res) : Prop :=
  (∃ m, m < o.length ∧ (∀ j, j < m → wF o view (corOf i).many j = wL o view (corOf i).many j) ∧ wF o view (corOf i).many m ≠ wL o view (corOf i).many m ∧ r = wkOut o view (corOf i).many m) ∨
  ((∀ j, j < o.length → wF o view (corOf i).many j = wL o view (corOf i).many j) ∧ ((i = [] ∧ r = .ok (.tup [.int o.length, .int (wkS o view (corOf i).many o.length)])) ∨
    (i ≠ [] ∧ ∃ es bs, LsQ [] i (rgI 0 i.length) (wkSeen o i view (corOf i).many) es ∧ LbQ [] i (rgI 0 i.length) (wkSeen o i view (corOf i).many) bs ∧ (∀ j, j ≤ es.length → 0 ≤ prevS 0 es j ∧ prevS 0 es j < totI [] i) ∧ (∀ j, j ≤ bs.length → 0 ≤ prevS (totI [] i - 1) bs j ∧ prevS (totI [] i - 1) bs j < totI [] i) ∧ r = wkEnd es bs o.length i.length (wkS o view (corOf i).many o.length))))
theorem first_not (p : Nat → Prop) : ∀ n : Nat, (∀ j, j < n → p j) ∨ ∃ m, m < n ∧ (∀ j, j < m → p j) ∧ ¬ p m
  | 0 => .inl fun j h => by omega
  | n + 1 => by
    rcases first_not p n with h | ⟨m, a, b, c⟩
    · by_cases hp : p n
      · exact .inl fun j hj => by
          by_cases e : j = n
          · subst e; exact hp
          · exact h j (by omega)
      · exact .inr ⟨n, by omega, h, hp⟩
    · exact .inr ⟨m, by omega, b, c⟩
theorem wkQ_ex {o i : List Int} (N : NOk o i) (view : List Int) : ∃ r, WkQ o i view r := by
  rcases first_not (fun j => wF o view (corOf i).many j = wL o view (corOf i).many j) o.length with h | ⟨m, a, b, c⟩
  · by_cases hi : i = []
    · exact ⟨_, .inr ⟨h, .inl ⟨hi, rfl⟩⟩⟩
    · obtain ⟨es, E, Eb⟩ := early_ex (W_core (W_of N)) (VT_core N view)
      obtain ⟨bs, B, Bb⟩ := late_ex (W_core (W_of N)) (VT_core N view)
      exact ⟨_, .inr ⟨h, .inr ⟨hi, es, bs, E, B, Eb, Bb, rfl⟩⟩⟩
  · exact ⟨_, .inl ⟨m, a, b, c, rfl⟩⟩
theorem wkQ_R {Y : Wo} {o i : List Int} (N : NOk o i) {view : List Int} {r : Res} (h : WkQ o i view r) : WkR Y o i view r := by
  rcases h with h | ⟨h, ⟨hi, e⟩ | ⟨hi, es, bs, E, B, Eb, Bb, e⟩⟩
  · exact .inl h
  · exact .inr ⟨h, .inl ⟨hi, e⟩⟩
  · have V := VT_core N view
    have sl : (wkSeen o i view (corOf i).many).length = i.length := wkSeen_len
    have l2 := N.zi.len
    have hb := bs_both (W_core (W_of N)) V E Eb B Bb
    rw [rgI_len] at hb
    have hp := List.length_pos_iff.mpr hi
    have V' : VT [] i (rgI 0 (wkSeen o i view (corOf i).many).length) (wkSeen o i view (corOf i).many) := by rw [sl]; exact V
    refine .inr ⟨h, .inr ⟨hi, es, bs, ⟨by omega, by omega, end_core N.zi N.bM sl V' (by rw [sl]; exact E) Eb, beg_core N.zi N.bM sl V' (by rw [sl]; exact B) Bb, by rw [sl]; exact hb⟩, e⟩⟩
end Sd

namespace Sd
open PySem PySem.Spec L2
open PyProof.Rows (envOfC)

/-! ### calls with keywords only -/
section
variable {X : Cx} {ρ ρ1 ρ2 : List Sl} {d : D} {ds : List D} {e : Expr} {kws : List Keyword} {kpos : Pos} {nm : Option Str}
theorem pk_imp {a a' : TA} (h : PK X kws a) (k : ∀ σ H Q, a' σ H Q → a σ H Q) : PK X kws a' := ⟨fun pos pins s σ H Q I q => h.run pos pins s σ H Q I (k σ H Q q)⟩
theorem k_nil : PK X [] (tA' ρ []) := pk_imp pk_nil fun σ H Q ⟨B, M0, b, P, S, k⟩ => k [] H (S.imp ((Up.atL [] []).and S.up) fun _ _ p => ⟨rfl, p⟩)
theorem k_cons (h1 : PE X e (tG ρ ρ1 d)) (h2 : PK X kws (tAG ρ1 ρ2 ds)) : PK X (⟨nm, e, kpos⟩ :: kws) (tAG ρ ρ2 (d :: ds)) :=
  pk_imp (pk_cons h1 h2) fun σ H Q ⟨B, M0, b, P, S, k⟩ => ⟨B, M0, b, P, S, fun x H1 S1 => ⟨B, M0, b, _, S1, fun vs H2 S2 => k (x :: vs) H2 (S2.imp ((Up.atL _ _).and S.up) fun _ _ q => ⟨AtL.cons q.2.1 q.1, q.2.2⟩)⟩⟩
end
section
variable {X : Cx} {CX : CXT} {k : Nat} {f C : Addr} {fd : FuncData} {ps ks : List Str} {sp : Sp} {E : St → XK} {x m : Str} {p pos apos : Pos} {o : Expr} {kws : List Keyword} {tk : TA} {ta : TE} {gV : List V → List V} {g : List Value → List Value}
theorem run_kwS {pins : List (Addr × Obj)} {σ : St} {H : Hp} {s : Shared} {Q : VK} {us ws fs : List Value} {vs : List V} (F : FnOk X.prog X.w X.K X.mg X.base CX k f fd ps sp) (hr : Room k X.A) (hb : BindsTo s fd ⟨fs, ks.zip ws⟩ (ps.zip us)) (hx : PassesAt CX X σ (E σ))
    (I : Inv X pins σ H s) (r : Vals vs us) (h : sp vs H Q (E σ)) : wpAny (model X.prog X.w) X.A (call (.ref f) fs (ks.zip ws)) (EP X pins σ Q) X.xe s := by
  refine wpAny_call (codeAny_mono (F.run X.A X.stack s H ⟨fs, ks.zip ws⟩ us vs Q (E σ) hr I.env0 hb r h) fun r s' hq => ?_)
  cases r with
  | error e => exact hx pins H s e s' I hq
  | ok fl =>
    cases fl with
    | ret u => exact I.after hq
    | next => exact False.elim hq
    | brk => exact False.elim hq
    | cont => exact False.elim hq
theorem pe_callK0S (F : FnOk X.prog X.w X.K X.mg X.base CX k f fd ps sp) (hr : Room k X.A) (hg : Gl X x) (hm : X.mg x = some (.ref f)) (hk : PySem.W.keepIn X.K (.ref f) = true)
    (hb : ∀ (s : Shared) (ws : List Value), ws.length = ks.length → BindsTo s fd ⟨[], ks.zip ws⟩ (ps.zip (g ws))) (hV : ∀ {zs : List V} {ws : List Value}, Vals zs ws → Vals (gV zs) (g ws)) (hx : ∀ σ, PassesAt CX X σ (E σ)) (hkw : PK X kws tk)
    (hall : (backToKw pos (keywordEach kws X.env)).all (·.1.isSome) = true := by rfl) (hks : (backToKw pos (keywordEach kws X.env)).filterMap (·.1) = ks := by rfl) (hdb : (x == ("__debug__" : Str)) = false := by decide)
    (hpl : ((backTo pos (starEach [] X.env)).any (·.1) || (backToKw pos (keywordEach kws X.env)).any (·.1.isNone)) = false := by rfl) :
    PE X (.Call (.Name x p) [] kws pos) (fun σ H Q => tk σ H fun zs H2 => zs.length = ks.length ∧ sp (gV zs) H2 Q (E σ)) := by
  refine ⟨fun pins s σ H Q I h => ?_⟩
  refine wpAny_Call_Name_kw (ld_glob I hg hm ?_ hdb)
  refine PySem.W.callWith_KW0 (h₀ := X.base) I.ok.mod.kin hk hall ?_ hpl
  refine thn (hkw.run pos pins s σ H _ I h) fun ws s2 ⟨zs, H2, I2, rz, l2, q2⟩ => ⟨I2.kIn, ?_⟩
  rw [hks]
  exact run_kwS F hr (hb s2 ws (rz.length.symm.trans l2)) (hx σ) I2 (hV rz) q2
theorem pe_methK0S {pl : Sem Bool} (he : PE X o ta) (c : Cls X.K C) (hm : Meth X.K C m f) (F : FnOk X.prog X.w X.K X.mg X.base CX k f fd ps sp) (hr : Room k X.A)
    (hb : ∀ (s : Shared) (u : Value) (ws : List Value), ws.length = ks.length → BindsTo s fd ⟨[u], ks.zip ws⟩ (ps.zip (u :: g ws))) (hV : ∀ {zs : List V} {ws : List Value}, Vals zs ws → Vals (gV zs) (g ws)) (hx : ∀ σ, PassesAt CX X σ (E σ)) (hkw : PK X kws tk)
    (hall : (backToKw pos (keywordEach kws X.env)).all (·.1.isSome) = true := by rfl) (hks : (backToKw pos (keywordEach kws X.env)).filterMap (·.1) = ks := by rfl)
    (hpl : ((backTo pos (starEach [] X.env)).any (·.1) || (backToKw pos (keywordEach kws X.env)).any (·.1.isNone)) = false := by rfl)
    (ht : eval (.Call (.Attribute o m apos) [] kws pos) X.env = (do
      let ov ← eval o X.env
      standAt apos.atName
      let (f, first) ← holding [ov] (getMethod ov m pl)
      callWith pos f first (backTo pos (starEach [] X.env)) (backToKw pos (keywordEach kws X.env))) := by rfl) :
    PE X (.Call (.Attribute o m apos) [] kws pos) (fun σ H Q => ta σ H fun x H1 => ∃ a dx fs, x = .ref a ∧ H1 a = some (.ins C dx fs) ∧ fs.lookup m = none ∧ tk σ H1 fun zs H2 => zs.length = ks.length ∧ sp (x :: gV zs) H2 Q (E σ)) := by
  refine ⟨fun pins s σ H Q I h => ?_⟩
  refine PySem.W.methodCall_KW (pl := pl) (thn (he.run pins s σ H _ I h) fun u s1 ⟨x, H1, I1, rx, a, dx, fs, ex, ea, l, q⟩ => ?_) ht
  subst ex
  obtain rfl : u = Value.ref a := rx
  refine getmeth_ok I1 ea c hm l ?_
  refine PySem.W.callWith_KW0 (first := [.ref a]) (h₀ := X.base) I.ok.mod.kin hm.kp hall ?_ hpl
  refine thn (hkw.run pos pins s1 σ H1 _ I1 q) fun ws s2 ⟨zs, H2, I2, rz, l2, q2⟩ => ⟨I2.kIn, ?_⟩
  rw [hks]
  exact run_kwS (vs := V.ref a :: gV zs) (us := Value.ref a :: g ws) F hr (hb s2 (.ref a) ws (rz.length.symm.trans l2)) (hx σ) I2 (.cons rfl (hV rz)) q2
end
/-- a def, a method that is called by keywords alone: g puts their values in the parameters' order -/
structure FoK (Y : Wo) (k : Nat) (x : Str) (ps ks : List Str) (g : {α : Type} → List α → List α) (F : List D → Res → Prop) : Prop where
  ex : ∃ fd, FnOk Y.P Y.w Y.K Y.mg Y.base (L2.CX Y.P Y.w) k (He.ga Y.K x) fd ps (spF (cuA Y.K) F) ∧ ∀ (s : Shared) (ws : List Value), ws.length = ks.length → BindsTo s fd ⟨[], ks.zip ws⟩ (ps.zip (g ws))
  g : Y.mg x = some (.ref (He.ga Y.K x))
  kp : PySem.W.keepIn Y.K (.ref (He.ga Y.K x)) = true
structure FoMK (Y : Wo) (k : Nat) (C m : Str) (ps ks : List Str) (F : List D → Res → Prop) : Prop where
  ex : ∃ fd, FnOk Y.P Y.w Y.K Y.mg Y.base (L2.CX Y.P Y.w) k (He.ma Y.K (He.ga Y.K C) m) fd ps (spF (cuA Y.K) F) ∧ ∀ (s : Shared) (u : Value) (ws : List Value), ws.length = ks.length → BindsTo s fd ⟨[u], ks.zip ws⟩ (ps.zip (u :: ws))
  mt : Meth Y.K (He.ga Y.K C) m (He.ma Y.K (He.ga Y.K C) m)
  cl : Cls Y.K (He.ga Y.K C)
section
variable {Y : Wo} {x C m : Str} {ps ks N : List Str} {k : Nat}
theorem mkK {g : {α : Type} → List α → List α} {F : List D → Res → Prop} (hh : Y.hd) (i : Nat) (d : He.DefD) (S : FnScope N ps d.scope) (bq : ∀ (kV doc pm : Value) (an : Option Addr) (cdv ct : Value) (ws : List Value), ws.length = ks.length → bindArgs (PySem.W.fnOf d.name d.qual d.params d.body d.scope .none kV doc pm an cdv ct) ⟨[], ks.zip ws⟩ = pure (ps.zip (g ws))) (hl : ∀ ds r, F ds r → ds.length = ps.length)
    (hb : ∀ (cdv : Value) (A : Around) (outer : List Env) (s : Shared) (H : Hp) (E : XK) (ds : List D) (r : Res), Room k (cxY Y d N (He.ga Y.K x) cdv A outer s H E).A → F ds r → PSs (cxY Y d N (He.ga Y.K x) cdv A outer s H E) d.body (tS (wE E) (cuA Y.K) (entry N ds) (outF (anys N.length) r)))
    (hd : fnL[i]? = some d := by rfl) (hj : faL[i]? = some (.glo x) := by rfl) (hat : d.at_ = (x, none) := by rfl) (hv : d.dfl = [] := by rfl) : FoK Y (k + 1) x ps ks g F := by
  obtain ⟨fd, Fn⟩ := hh.d.def_ i hd
  have ea : He.fAd Y.K d.at_ = He.ga Y.K x := by rw [hat]; rfl
  have ed : He.DefD.dvs Y.K d = [] := by
    have : He.DefD.dvs Y.K d = d.dfl.map (He.Dv.v Y.K) := rfl
    rw [this, hv]; rfl
  rw [ea, ed] at Fn
  refine ⟨⟨fd, okF Fn S hl fun cdv A outer s H E ds r hr h => ⟨_, hb cdv A outer s H E ds r hr h⟩, fun s ws hw => ?_⟩, hh.glo i hj, Fn.kp⟩
  obtain ⟨oc, od, dV, kV, doc, pm, an, cdv, ct, osl, rfl, lk, hcd, hD, hK⟩ := Fn.ex
  rcases hD with ⟨_, rfl⟩ | ⟨e, _⟩
  · exact .of_eq (bq kV doc pm an cdv ct ws hw)
  · exact absurd rfl e
theorem mkMK {F : List D → Res → Prop} (hh : Y.hd) (i j l : Nat) (d : He.DefD) (S : FnScope N ps d.scope) (bq : ∀ (kV doc pm : Value) (an : Option Addr) (cdv ct : Value) (u : Value) (ws : List Value), ws.length = ks.length → bindArgs (PySem.W.fnOf d.name d.qual d.params d.body d.scope .none kV doc pm an cdv ct) ⟨[u], ks.zip ws⟩ = pure (ps.zip (u :: ws))) (hl : ∀ ds r, F ds r → ds.length = ps.length)
    (hb : ∀ (cdv : Value) (A : Around) (outer : List Env) (s : Shared) (H : Hp) (E : XK) (ds : List D) (r : Res), Room k (cxY Y d N (He.ma Y.K (He.ga Y.K C) m) cdv A outer s H E).A → F ds r → PSs (cxY Y d N (He.ma Y.K (He.ga Y.K C) m) cdv A outer s H E) d.body (tS (wE E) (cuA Y.K) (entry N ds) (outF (anys N.length) r)))
    (hd : fnL[i]? = some d := by rfl) (hj : faL[j]? = some (.meth C m) := by rfl) (hc : faL[l]? = some (.cls C) := by rfl) (hat : d.at_ = (C, some m) := by rfl) (hv : d.dfl = [] := by rfl) : FoMK Y (k + 1) C m ps ks F := by
  obtain ⟨fd, Fn⟩ := hh.d.def_ i hd
  have ea : He.fAd Y.K d.at_ = He.ma Y.K (He.ga Y.K C) m := by rw [hat]; rfl
  have ed : He.DefD.dvs Y.K d = [] := by
    have : He.DefD.dvs Y.K d = d.dfl.map (He.Dv.v Y.K) := rfl
    rw [this, hv]; rfl
  rw [ea, ed] at Fn
  refine ⟨⟨fd, okF Fn S hl fun cdv A outer s H E ds r hr h => ⟨_, hb cdv A outer s H E ds r hr h⟩, fun s u ws hw => ?_⟩, hh.meth j hj, hh.cls l hc⟩
  obtain ⟨oc, od, dV, kV, doc, pm, an, cdv, ct, osl, rfl, lk, hcd, hD, hK⟩ := Fn.ex
  rcases hD with ⟨_, rfl⟩ | ⟨e, _⟩
  · exact .of_eq (bq kV doc pm an cdv ct u ws hw)
  · exact absurd rfl e
end
section
variable {X : Cx} {W : WX} {ρ : List Sl} {d : D} {ds fs : List D} {fks : List Str} {r : Res} {F : List D → Res → Prop} {j k : Nat} {ps ks : List Str} {x C m : Str} {p apos pos : Pos} {o : Expr} {kws : List Keyword} {g : {α : Type} → List α → List α}
theorem x_kX (G : FoK ⟨X.prog, X.w, X.K, X.mg, X.base⟩ j x ps ks g F) (hr : Room k X.A) (tk : Takes X W) (hV : ∀ {zs : List V} {ws : List Value}, Vals zs ws → Vals (g zs) (g ws)) (hA : ∀ {M : Hp} {ds : List D} {zs : List V}, AtL M ds zs → AtL M (g ds) (g zs)) (hk : PK X kws (tA' ρ ds)) (hF : F (g ds) r) (hl : ds.length = ks.length := by rfl) (hj : j ≤ k := by decide) (hg : Gl X x := by rfl)
    (hall : (backToKw pos (keywordEach kws X.env)).all (·.1.isSome) = true := by rfl) (hks : (backToKw pos (keywordEach kws X.env)).filterMap (·.1) = ks := by rfl) (hdb : (x == ("__debug__" : Str)) = false := by decide)
    (hpl : ((backTo pos (starEach [] X.env)).any (·.1) || (backToKw pos (keywordEach kws X.env)).any (·.1.isNone)) = false := by rfl) :
    PE X (.Call (.Name x p) [] kws pos) (tX W (cuA X.K) ρ r) := by
  obtain ⟨fd, G1, b1⟩ := G.ex
  refine pe_imp (pe_callK0S (E := WE W) (gV := g) (g := g) G1 (hr.mono hj) hg G.g G.kp b1 hV (fun σ => passAt tk σ) hk hall hks hdb hpl) fun σ H Q ⟨B, M0, b, P, S, k⟩ => ⟨B, M0, b, P, S, fun zs H1 S1 => ?_⟩
  obtain ⟨M, O⟩ := S1.opn
  refine ⟨by rw [← O.p.1.len]; exact hl, ?_⟩
  have S2 : StV B M0 b ρ (fun M => AtL M (g ds) (g zs) ∧ P M) σ H1 := S1.imp ((Up.atL _ _).and S.up) fun _ _ q => ⟨hA q.1, q.2⟩
  have e0 : spF (cuA X.K) F (g zs ++ []) H1 Q (WE W σ) := by
    cases r with
    | ok d => exact spF_ok (dfl := []) S2 S.up (fun _ => rfl) (by rw [List.append_nil]; exact hF) k
    | ex n => exact spF_ex (dfl := []) S2 S.up (fun _ => rfl) (by rw [List.append_nil]; exact hF) k
  rw [List.append_nil] at e0
  exact e0
theorem x_mkX {pl : Sem Bool} (G : FoMK ⟨X.prog, X.w, X.K, X.mg, X.base⟩ j C m ps ks F) (hr : Room k X.A) (tk : Takes X W) (h : PE X o (tD ρ (.ins (He.ga X.K C) fks fs))) (hk : PK X kws (tA' ρ ds)) (hF : F (.ins (He.ga X.K C) fks fs :: ds) r) (hno : fieldIx m fks = none := by rfl) (hl : ds.length = ks.length := by rfl) (hj : j ≤ k := by decide)
    (hall : (backToKw pos (keywordEach kws X.env)).all (·.1.isSome) = true := by rfl) (hks : (backToKw pos (keywordEach kws X.env)).filterMap (·.1) = ks := by rfl)
    (hpl : ((backTo pos (starEach [] X.env)).any (·.1) || (backToKw pos (keywordEach kws X.env)).any (·.1.isNone)) = false := by rfl)
    (ht : eval (.Call (.Attribute o m apos) [] kws pos) X.env = (do
      let ov ← eval o X.env
      standAt apos.atName
      let (f, first) ← holding [ov] (getMethod ov m pl)
      callWith pos f first (backTo pos (starEach [] X.env)) (backToKw pos (keywordEach kws X.env))) := by rfl) :
    PE X (.Call (.Attribute o m apos) [] kws pos) (tX W (cuA X.K) ρ r) := by
  obtain ⟨fd, G1, b1⟩ := G.ex
  refine pe_imp (pe_methK0S (E := WE W) (gV := fun z => z) (g := fun z => z) h G.cl G.mt G1 (hr.mono hj) b1 (fun z => z) (fun σ => passAt tk σ) hk hall hks hpl ht) fun σ H Q ⟨B, M0, b, P, S, kk⟩ => ⟨B, M0, b, P, S, fun x H1 S1 => ?_⟩
  obtain ⟨M, O⟩ := S1.opn
  obtain ⟨⟨a, dx, xs, ex, ha, hxl, ax⟩, _⟩ := O.p
  refine ⟨a, dx, _, ex, O.c.sub _ _ ha, lookup_no hno, B, M0, b, _, S1, fun zs H2 S2 => ?_⟩
  obtain ⟨M2, O2⟩ := S2.opn
  refine ⟨by rw [← O2.p.1.len]; exact hl, ?_⟩
  have S3 : StV B M0 b ρ (fun M => AtL M (.ins (He.ga X.K C) fks fs :: ds) (x :: zs) ∧ P M) σ H2 := S2.imp ((Up.atL _ _).and S.up) fun _ _ q => ⟨AtL.cons q.2.1 q.1, q.2.2⟩
  have e0 : spF (cuA X.K) F ((x :: zs) ++ []) H2 Q (WE W σ) := by
    cases r with
    | ok d => exact spF_ok (dfl := []) S3 S.up (fun _ => rfl) (by rw [List.append_nil]; exact hF) kk
    | ex n => exact spF_ex (dfl := []) S3 S.up (fun _ => rfl) (by rw [List.append_nil]; exact hF) kk
  rw [List.append_nil] at e0
  exact e0
end
theorem fk_nest_tour {Y : Wo} (hh : Y.hd) : FoK Y 1 "nest_tour" ["nest"] ["nest"] (fun z => z) F_nest_tour := by
  have nd : (["nest", "depth", "outer", "inner"] : List Str).Nodup := sc_nest_tour.nd
  refine mkK (k := 0) (N := ["nest", "depth", "outer", "inner"]) hh 29 ds_nest_tour sc_nest_tour (fun _ _ _ _ _ _ us hl => match us, hl with | [_], _ => rfl) (by rintro ds r ⟨o, i, rfl, rfl, ho, hi⟩; rfl) ?_
  rintro cdv A outer s H E ds r hr ⟨o, i, rfl, rfl, ho, hi⟩
  have h1 := ho.len
  have h2 := hi.len
  refine s_seq (s_set (d := .int o.length) 1 nd (x_lenI hh.b_len (x_ix (x_v 0) x_int (nestD_it o i) rfl))) ?_
  refine s_seq (s_set (d := .lst (dInts (rgI 0 o.length))) 2 nd (x_is (x_lstRg hh.b_list (rg_1 hh.b_range (x_v 1)) (by omega)) (by rw [Int.sub_zero, Int.toNat_natCast]))) ?_
  refine s_seq (s_set (d := .lst (dInts (rgI o.length i.length))) 3 nd (x_is (x_lstRg (n := o.length) (m := o.length + i.length) hh.b_list (rg_2 hh.b_range (x_v 1) (x_add (x_v 1) (x_lenI hh.b_len (x_ix (x_v 0) x_int (nestD_it o i) rfl)))) (by omega)) (by rw [show (((o.length : Int) + (i.length : Int)) - (o.length : Int)).toNat = i.length by omega]))) ?_
  refine r_ret (x_is (x_tupL hh.b_tuple (x_catL (x_catL (x_v 2) (x_v 3) ?_) (x_revL (x_v 2)) ?_)) ?_) sa
  · rw [dInts_len, dInts_len, rgI_len, rgI_len]; omega
  · rw [List.length_append, List.length_reverse, dInts_len, dInts_len, rgI_len, rgI_len]; omega
  · rw [dInts_rev, dInts_app2, dInts_app2]; rfl
theorem fk_is_seen {Y : Wo} (hh : Y.hd) : FoK Y 12 "is_seen" ["nest", "view"] ["view", "nest"] List.reverse (F_is_seen Y) := by
  have nd : (["nest", "view"] : List Str).Nodup := sc_is_seen.nd
  refine mkK (k := 11) (N := ["nest", "view"]) hh 39 ds_is_seen sc_is_seen (fun _ _ _ _ _ _ us hl => match us, hl with | [_, _], _ => rfl) (by rintro ds r ⟨o, i, view, es, rfl, rfl, hn, hv, he⟩; rfl) ?_
  rintro cdv A outer s H E ds r hr ⟨o, i, view, es, rfl, rfl, hn, hv, he⟩
  have U := fo_Unseen hh
  unfold seenR
  by_cases hf : es.length = vN o i
  · rw [decide_eq_true hf]
    have er : resE es (vN o i) es.length = .ok (.tup (dInts es)) := by unfold resE; exact if_pos hf
    refine s_seq (s_tryO U (takes_of rfl rfl rfl rfl) (o := .nx [.val (nestD o i), .val (.tup (dInts view))]) (fun W' pn xe tk hpo => ?_) (fun _ _ h => by cases h) (fun a oe pn => pss_never)) (r_ret x_bl sa)
    refine s_seq (s_expr (d := .tup (dInts es)) (x_dn (W := W') (CU := cuA Y.K) (x_fX (fo_first_end hh) hr tk (a_cons (x_v 0) (a_cons (x_v 1) a_nil)) ⟨o, i, view, es, rfl, er.symm, hn, hv, he⟩))) (s_nil (SubL.refl _))
  · rw [decide_eq_false hf]
    have er : resE es (vN o i) es.length = .ex es.length := by unfold resE; exact if_neg hf
    refine s_leave (s_tryE U (takes_of rfl rfl rfl rfl) (ρ1 := [.val (nestD o i), .val (.tup (dInts view))]) (k := es.length) (fun W' pn xe tk hpo => ?_) (fun a oe pn => ?_) (fun _ _ h => by cases h)) rfl
    · exact s_leave (s_exprE (x_fX (fo_first_end hh) hr tk (a_cons (x_v 0) (a_cons (x_v 1) a_nil)) ⟨o, i, view, es, rfl, er.symm, hn, hv, he⟩)) rfl
    · exact r_ret x_bl sa
theorem fk_Teller_told {Y : Wo} (hh : Y.hd) : FoMK Y 13 "Teller" "told" ["self", "view"] ["view"] (F_Teller_told Y) := by
  have nd : (["self", "view"] : List Str).Nodup := sc_Teller_told.nd
  refine mkMK (k := 12) (N := ["self", "view"]) hh 86 118 106 ds_Teller_told sc_Teller_told (fun _ _ _ _ _ _ u us hl => match us, hl with | [_], _ => rfl) (by rintro ds r ⟨o, i, view, rfl, h⟩; rfl) ?_
  rintro cdv A outer s H E ds r hr ⟨o, i, view, rfl, h⟩
  exact r_retF (x_fX (fo_told_stage hh) hr (takes_of rfl rfl rfl rfl) (a_cons (x_tnest (x_v 0) hh) (a_cons (x_v 1) a_nil)) h)
end Sd

namespace Sd
open PySem PySem.Spec L2
open PyProof.Rows (envOfC)

/-! ### try .. except Unseen as n: return (w, n.place) -/
theorem unseen_xf {K : PySem.W.Frag} {mg : Str → Option Value} (h : Hd K mg) : XfC K (cuA K) ∧ PySem.W.findIn K (.ref (cuA K)) "place" = some none := by
  obtain ⟨_, _, _, a, _, b⟩ := oex_of h.e
  exact ⟨b, a⟩
section
variable {X : Cx} {W : WX} {ρ : List Sl} {o : Out} {body suite : List Stmt} {b₀ : Stmt} {np pos pos' pc p1 p2 p3 p4 : Pos} {n w : Str} {kc kt : Nat}
theorem s_tryAsO (i : Nat) (nd : X.N.Nodup) (U : FoU ⟨X.prog, X.w, X.K, X.mg, X.base⟩) (tk : Takes X W) (hb : ∀ (W' : WX) (pn : List (Addr × Obj)) (xe : Value → Shared → Prop), Takes (X.tr pn xe) W' → PassesOwn (model X.prog X.w) X.A X.env xe → PSs (X.tr pn xe) body (tS W' (cuA X.K) ρ o)) (ho : ∀ ρ1 k, o ≠ .ex ρ1 k)
    (hi : X.N[i]? = some n := by rfl) (hln : X.env.kindOf n = some .local := by rfl) (hs : X.stack = X.env :: X.outer := by rfl) (hf : X.env.frame = some X.env.locals := by rfl) (hg : Gl X "Unseen" := by rfl) :
    PS X (.Try body [.ExceptHandler (some (.Name "Unseen" np)) (some n) (b₀ :: suite) pos'] [] [] pos) (tS W (cuA X.K) ρ o) :=
  ps_imp (ps_try_as (c := .ref (cuA X.K)) (tb := fun W' => tS W' (cuA X.K) ρ o) (ts := fun _ _ _ => fun _ _ _ => False) hs hf nd hi hln ⟨hg, by decide, .inl U.g⟩ tk hb fun a oe cls d pn _ _ => pss_never) fun D σ H ⟨B, M0, b, P, S, kk⟩ => ⟨B, M0, b, P, S, by
    cases o with
    | ex ρ1 k => exact absurd rfl (ho ρ1 k)
    | nx _ => exact kk
    | rt _ _ => exact kk
    | bk _ => exact kk
    | ct _ => exact kk
    | rn _ _ => exact kk⟩
theorem s_tryAsE {ρ1 : List Sl} {k : Int} (i : Nat) (nd : X.N.Nodup) (hh : Hd X.K X.mg) (U : FoU ⟨X.prog, X.w, X.K, X.mg, X.base⟩) (tk : Takes X W) (hb : ∀ (W' : WX) (pn : List (Addr × Obj)) (xe : Value → Shared → Prop), Takes (X.tr pn xe) W' → PassesOwn (model X.prog X.w) X.A X.env xe → PSs (X.tr pn xe) body (tS W' (cuA X.K) ρ (.ex ρ1 k)))
    (hil : i < ρ1.length := by decide) (hi : X.N[i]? = some n := by rfl) (hln : X.env.kindOf n = some .local := by rfl) (hv : Vis X.env.scope n := by first | exact Or.inl rfl | exact Or.inr (Or.inl rfl) | exact Or.inr (Or.inr rfl)) (hs : X.stack = X.env :: X.outer := by rfl) (hf : X.env.frame = some X.env.locals := by rfl) (hg : Gl X "Unseen" := by rfl)
    (hd1 : (n == ("__debug__" : Str)) = false := by decide) (hd2 : (n == ("__classdict__" : Str)) = false := by decide) (hab : attributeBase (.Name n p1) "place" X.env (eval (.Name n p1) X.env) = eval (.Name n p1) X.env := by rfl) :
    PS X (.Try body [.ExceptHandler (some (.Name "Unseen" np)) (some n) [.Return (some (.Tuple [.Constant (.str w) kc pc, .Attribute (.Name n p1) "place" p2] kt p3)) p4] pos'] [] [] pos) (tS W (cuA X.K) ρ (.rt ρ1 (.tup [.str w, .int k]))) := by
  obtain ⟨xf, hp⟩ := unseen_xf hh
  refine ps_imp (ps_try_as (c := .ref (cuA X.K)) (tb := fun W' => tS W' (cuA X.K) ρ (.ex ρ1 k)) hs hf nd hi hln ⟨hg, by decide, .inl U.g⟩ tk hb fun a oe cls d pn hz hfs => pss_one (ps_ret (pe_tup (pa_cons pe_str (pa_cons (pe_xf xf hp hz hfs (pe_var hi hv hd1 hd2) hab) pa_nil))))) fun D σ H ⟨B, M0, b, P, S, kk⟩ => ⟨B, M0, b, P, S, fun dd σ' H' S' hd => ⟨true, U.x, fun _ a ha => ?_, fun z => by cases z⟩⟩
  have hl : i < σ'.length := by rw [← S'.len]; exact hil
  refine ⟨.ref a, List.getElem?_set_self hl, rfl, rfl, dd, [(("place" : Str), .int k)], .int k, rfl, hd, rfl, ?_, fun p hp => kk (.ref p) σ' _ ?_⟩
  · show 2 ≤ sizeLine; decide
  · exact StV.newTup (ds := [.str w, .int k]) (vs := [.str w, .int k]) (S'.imp ((Up.atL _ _).and S'.up) fun M _ q => ⟨⟨_, _, rfl, rfl, _, _, rfl, rfl, rfl⟩, q⟩) S'.up hp
end
end Sd

namespace Sd
open PySem PySem.Spec L2
open PyProof.Rows (envOfC)

/-! ### what is heard of the program -/
def heardR (es bs : List Int) (n : Nat) (r' : Res) : Nat → Res
  | 0 => resE es n es.length
  | 1 => resB bs n
  | 2 => spanR es bs n
  | 3 => toldR es bs n
  | 4 => spanR es bs n
  | 5 => toldR es bs n
  | 6 => .ok (seenR es n)
  | 7 => .ok (seenR es n)
  | _ => sndR r'
def tryB : Stmt → List Stmt
  | .Try b _ _ _ _ => b
  | _ => []
abbrev tryBody : List Stmt := tryB ((defBody s_law_heard).getD 0 (.Pass ⟨0, 0, 0, 0⟩))
def catD : Res → D
  | .ok d => d
  | .ex k => .tup [.str "unseen", .int k]
theorem leave_outF (ρ : List Sl) : ∀ r, leave (outF ρ r) = true
  | .ok _ => rfl
  | .ex _ => rfl
/-! ### _law_heard -/
def F_law_heard (Y : Wo) (ds : List D) (r : Res) : Prop := ∃ (o i view es bs : List Int) (r' : Res) (a : Nat), ds = [nestD o i, tellD Y.K o i, .tup (dInts view), .int a] ∧ r = .ok (catD (heardR es bs (vN o i) r' a)) ∧ SpN Y o i view es bs ∧ WkR Y o i view r' ∧ a < 10
theorem sc_law_heard : FnScope ["_law_nest_here", "_law_teller", "_law_view", "_law_asked", "error"] ["_law_nest_here", "_law_teller", "_law_view", "_law_asked"] (defScope s_law_heard) := ⟨rfl, rfl, rfl, by decide +kernel, rfl, by decide +kernel, by decide +kernel⟩
theorem fo_law_heard {Y : Wo} (hh : Y.hd) : Fo Y 14 "_law_heard" ["_law_nest_here", "_law_teller", "_law_view", "_law_asked"] (F_law_heard Y) := by
  have nd : (["_law_nest_here", "_law_teller", "_law_view", "_law_asked", "error"] : List Str).Nodup := sc_law_heard.nd
  refine mkF (k := 13) (N := ["_law_nest_here", "_law_teller", "_law_view", "_law_asked", "error"]) hh 65 ds_law_heard sc_law_heard (fun _ _ _ _ _ _ us hl => match us, hl with | [_, _, _, _], _ => rfl) (by rintro ds r ⟨o, i, view, es, bs, r', a, rfl, rfl, h, hW, ha⟩; rfl) ?_
  rintro cdv A outer s H E ds r hr ⟨o, i, view, es, bs, r', a, rfl, rfl, h, hW, ha⟩
  have U := fo_Unseen hh
  have hb : ∀ (W' : WX) (pn : List (Addr × Obj)) (xe : Value → Shared → Prop), Takes ((cxY Y ds_law_heard ["_law_nest_here", "_law_teller", "_law_view", "_law_asked", "error"] (He.ga Y.K "_law_heard") cdv A outer s H E).tr pn xe) W' → PassesOwn (model Y.P Y.w) (cxY Y ds_law_heard ["_law_nest_here", "_law_teller", "_law_view", "_law_asked", "error"] (He.ga Y.K "_law_heard") cdv A outer s H E).A (cxY Y ds_law_heard ["_law_nest_here", "_law_teller", "_law_view", "_law_asked", "error"] (He.ga Y.K "_law_heard") cdv A outer s H E).env xe → PSs ((cxY Y ds_law_heard ["_law_nest_here", "_law_teller", "_law_view", "_law_asked", "error"] (He.ga Y.K "_law_heard") cdv A outer s H E).tr pn xe) tryBody (tS W' (cuA Y.K) [.val (nestD o i), .val (tellD Y.K o i), .val (.tup (dInts view)), .val (.int a), .any] (outF (anys 5) (heardR es bs (vN o i) r' a))) := by
    intro W' pn xe tk hpo
    match a, ha with
    | 0, _ =>
      exact r_take (t_is (t_eq (x_v 3) x_int rfl) rfl) (r_retF (x_fX (fo_first_end hh) hr tk (a_cons (x_v 0) (a_cons (x_v 2) a_nil)) ⟨o, i, view, es, rfl, rfl, h.n, h.v, h.e⟩)) (leave_outF _ _)
    | 1, _ =>
      refine r_skip (t_is (t_eq (x_v 3) x_int rfl) rfl) ?_
      exact r_take (t_is (t_eq (x_v 3) x_int rfl) rfl) (r_retF (x_fX (fo_last_begin hh) hr tk (a_cons (x_v 0) (a_cons (x_v 2) a_nil)) ⟨o, i, view, bs, rfl, rfl, h.n, h.v, h.b⟩)) (leave_outF _ _)
    | 2, _ =>
      refine r_skip (t_is (t_eq (x_v 3) x_int rfl) rfl) ?_
      refine r_skip (t_is (t_eq (x_v 3) x_int rfl) rfl) ?_
      exact r_take (t_is (t_eq (x_v 3) x_int rfl) rfl) (r_retF (x_fX (fo_right_span hh) hr tk (a_cons (x_v 0) (a_cons (x_v 2) a_nil)) ⟨o, i, view, es, bs, rfl, rfl, h⟩)) (leave_outF _ _)
    | 3, _ =>
      refine r_skip (t_is (t_eq (x_v 3) x_int rfl) rfl) ?_
      refine r_skip (t_is (t_eq (x_v 3) x_int rfl) rfl) ?_
      refine r_skip (t_is (t_eq (x_v 3) x_int rfl) rfl) ?_
      exact r_take (t_is (t_eq (x_v 3) x_int rfl) rfl) (r_retF (x_fX (fo_told_stage hh) hr tk (a_cons (x_v 0) (a_cons (x_v 2) a_nil)) ⟨o, i, view, es, bs, rfl, rfl, h⟩)) (leave_outF _ _)
    | 4, _ =>
      refine r_skip (t_is (t_eq (x_v 3) x_int rfl) rfl) ?_
      refine r_skip (t_is (t_eq (x_v 3) x_int rfl) rfl) ?_
      refine r_skip (t_is (t_eq (x_v 3) x_int rfl) rfl) ?_
      refine r_skip (t_is (t_eq (x_v 3) x_int rfl) rfl) ?_
      exact r_take (t_is (t_eq (x_v 3) x_int rfl) rfl) (r_retF (x_mX (fo_Teller_span hh) hr tk (x_v 1) (a_cons (x_v 2) a_nil) ⟨o, i, view, rfl, o, i, view, es, bs, rfl, rfl, h⟩)) (leave_outF _ _)
    | 5, _ =>
      refine r_skip (t_is (t_eq (x_v 3) x_int rfl) rfl) ?_
      refine r_skip (t_is (t_eq (x_v 3) x_int rfl) rfl) ?_
      refine r_skip (t_is (t_eq (x_v 3) x_int rfl) rfl) ?_
      refine r_skip (t_is (t_eq (x_v 3) x_int rfl) rfl) ?_
      refine r_skip (t_is (t_eq (x_v 3) x_int rfl) rfl) ?_
      exact r_take (t_is (t_eq (x_v 3) x_int rfl) rfl) (r_retF (x_mkX (fk_Teller_told hh) hr tk (x_v 1) (k_cons (x_v 2) k_nil) ⟨o, i, view, rfl, o, i, view, es, bs, rfl, rfl, h⟩)) (leave_outF _ _)
    | 6, _ =>
      refine r_skip (t_is (t_eq (x_v 3) x_int rfl) rfl) ?_
      refine r_skip (t_is (t_eq (x_v 3) x_int rfl) rfl) ?_
      refine r_skip (t_is (t_eq (x_v 3) x_int rfl) rfl) ?_
      refine r_skip (t_is (t_eq (x_v 3) x_int rfl) rfl) ?_
      refine r_skip (t_is (t_eq (x_v 3) x_int rfl) rfl) ?_
      refine r_skip (t_is (t_eq (x_v 3) x_int rfl) rfl) ?_
      exact r_take (t_is (t_eq (x_v 3) x_int rfl) rfl) (r_retF (x_mX (fo_Teller_seen hh) hr tk (x_v 1) (a_cons (x_v 2) a_nil) ⟨o, i, view, rfl, o, i, view, es, rfl, rfl, h.n, h.v, h.e⟩)) (leave_outF _ _)
    | 7, _ =>
      refine r_skip (t_is (t_eq (x_v 3) x_int rfl) rfl) ?_
      refine r_skip (t_is (t_eq (x_v 3) x_int rfl) rfl) ?_
      refine r_skip (t_is (t_eq (x_v 3) x_int rfl) rfl) ?_
      refine r_skip (t_is (t_eq (x_v 3) x_int rfl) rfl) ?_
      refine r_skip (t_is (t_eq (x_v 3) x_int rfl) rfl) ?_
      refine r_skip (t_is (t_eq (x_v 3) x_int rfl) rfl) ?_
      refine r_skip (t_is (t_eq (x_v 3) x_int rfl) rfl) ?_
      exact r_take (t_is (t_eq (x_v 3) x_int rfl) rfl) (r_retF (x_kX (fk_is_seen hh) hr tk (fun z => z.reverse) (fun z => z.reverse) (k_cons (x_v 2) (k_cons (x_v 0) k_nil)) ⟨o, i, view, es, rfl, rfl, h.n, h.v, h.e⟩)) (leave_outF _ _)
    | 8, _ =>
      refine r_skip (t_is (t_eq (x_v 3) x_int rfl) rfl) ?_
      refine r_skip (t_is (t_eq (x_v 3) x_int rfl) rfl) ?_
      refine r_skip (t_is (t_eq (x_v 3) x_int rfl) rfl) ?_
      refine r_skip (t_is (t_eq (x_v 3) x_int rfl) rfl) ?_
      refine r_skip (t_is (t_eq (x_v 3) x_int rfl) rfl) ?_
      refine r_skip (t_is (t_eq (x_v 3) x_int rfl) rfl) ?_
      refine r_skip (t_is (t_eq (x_v 3) x_int rfl) rfl) ?_
      refine r_skip (t_is (t_eq (x_v 3) x_int rfl) rfl) ?_
      exact r_take (t_is (t_eq (x_v 3) x_int rfl) rfl) (r_retF (x_fX (fo_weak_stage hh) hr tk (a_cons (x_v 0) (a_cons (x_v 2) a_nil)) ⟨o, i, view, r', rfl, rfl, h.n, h.v, hW⟩)) (leave_outF _ _)
    | 9, _ =>
      refine r_skip (t_is (t_eq (x_v 3) x_int rfl) rfl) ?_
      refine r_skip (t_is (t_eq (x_v 3) x_int rfl) rfl) ?_
      refine r_skip (t_is (t_eq (x_v 3) x_int rfl) rfl) ?_
      refine r_skip (t_is (t_eq (x_v 3) x_int rfl) rfl) ?_
      refine r_skip (t_is (t_eq (x_v 3) x_int rfl) rfl) ?_
      refine r_skip (t_is (t_eq (x_v 3) x_int rfl) rfl) ?_
      refine r_skip (t_is (t_eq (x_v 3) x_int rfl) rfl) ?_
      refine r_skip (t_is (t_eq (x_v 3) x_int rfl) rfl) ?_
      refine r_skip (t_is (t_eq (x_v 3) x_int rfl) rfl) ?_
      exact r_retF (x_mX (fo_Teller_weak hh) hr tk (x_v 1) (a_cons (x_v 2) a_nil) ⟨o, i, view, rfl, o, i, view, r', rfl, rfl, h.n, h.v, hW⟩)
  rcases hq : heardR es bs (vN o i) r' a with d | k
  · rw [hq] at hb
    exact s_leave (s_tryAsO 4 nd U (takes_of rfl rfl rfl rfl) hb (fun _ _ e => by cases e)) rfl
  · rw [hq] at hb
    exact s_leave (s_tryAsE 4 nd hh U (takes_of rfl rfl rfl rfl) hb) rfl
end Sd

namespace Sd
open PySem PySem.Spec L2
open PyProof.Rows (envOfC)

theorem rowW_o {o i : List Int} {k : Nat} (h : k < o.length) : rowW o i k = ⟨2, spanI o (corOf i).many k, o.getD k 0, (o.getD k 0 - 1) * pr (o.take k)⟩ := by unfold rowW; rw [if_pos h]
theorem spanI_cp {o i : List Int} (N : NOk o i) (view : List Int) {m : Nat} (h : m < o.length) (x : Int) : (wcP o view m * o.getD m 0 + x) * spanI o (corOf i).many m = wkS o view (corOf i).many m + x * spanI o (corOf i).many m := by
  rw [(wk_cp N view m (by omega)).1, pr_drop h, getD_get h, Int.add_mul]
  unfold spanI
  rw [Int.mul_left_comm (corOf i).many, Int.mul_assoc (wcP o view m)]
theorem take_seen {l : List Int} {p : Nat} (h : p < l.length) : dInts (l.take (p + 1)) = dInts (l.take p) ++ [.int l[p]] := by
  rw [List.take_succ_eq_append_getElem h]; unfold dInts; rw [List.map_append]; rfl
/-! ### _law_weak -/
def F_law_weak (ds : List D) (r : Res) : Prop := ∃ (o i tour view : List Int) (r' : Res), ds = [nestD o i, worldD o i, .tup (dInts tour), .tup (dInts view)] ∧ r = .ok (catD (sndR r')) ∧ NOk o i ∧ tour.length = view.length ∧ view.length = 2 * o.length + i.length ∧ WkQ o i view r'
theorem sc_law_weak : FnScope ["_law_nest_here", "_law_world_here", "_law_tour", "_law_view", "_law_copies", "_law_place", "_law_side", "_law_unit", "_law_size", "_law_most", "_law_first", "_law_last", "_law_begin", "_law_looks", "_law_early", "_law_late"] ["_law_nest_here", "_law_world_here", "_law_tour", "_law_view"] (defScope s_law_weak) := ⟨rfl, rfl, rfl, by decide +kernel, rfl, by decide +kernel, by decide +kernel⟩
theorem fo_law_weak {Y : Wo} (hh : Y.hd) : Fo Y 7 "_law_weak" ["_law_nest_here", "_law_world_here", "_law_tour", "_law_view"] F_law_weak := by
  have nd : (["_law_nest_here", "_law_world_here", "_law_tour", "_law_view", "_law_copies", "_law_place", "_law_side", "_law_unit", "_law_size", "_law_most", "_law_first", "_law_last", "_law_begin", "_law_looks", "_law_early", "_law_late"] : List Str).Nodup := sc_law_weak.nd
  refine mkF (k := 6) (N := ["_law_nest_here", "_law_world_here", "_law_tour", "_law_view", "_law_copies", "_law_place", "_law_side", "_law_unit", "_law_size", "_law_most", "_law_first", "_law_last", "_law_begin", "_law_looks", "_law_early", "_law_late"]) hh 66 ds_law_weak sc_law_weak (fun _ _ _ _ _ _ us hl => match us, hl with | [_, _, _, _], _ => rfl) (by rintro ds r ⟨o, i, tour, view, r', rfl, rfl, N, tl, vl, hQ⟩; rfl) ?_
  rintro cdv A outer s H E ds r hr ⟨o, i, tour, view, r', rfl, rfl, N, tl, vl, hQ⟩
  have l1 := N.zo.len
  have l2 := N.zi.len
  have W := W_of N
  have hcm := N.pos
  let R : Nat → List Sl := fun j => [.val (nestD o i), .val (worldD o i), .val (.tup (dInts tour)), .val (.tup (dInts view)), .val (.int (wcP o view j)), .any, .any, .any, .any, .any, .any, .any, .any, .any, .any, .any]
  refine s_seq (s_set 4 nd x_int) ?_
  have turn : ∀ {u : Out} {sts : List Stmt} {t : Nat}, True := fun {_ _ _} => trivial
  have cB : ∀ j, j ≤ o.length → Bd 1641 (wcP o view j) := fun j hj => wcP_B N.zo hj
  have fB : ∀ j, j < o.length → ∀ x : Int, 2 ≤ o.getD j 0 ∧ Bd 41 (o.getD j 0) ∧ 0 ≤ x % o.getD j 0 ∧ Bd 41 (x % o.getD j 0) := fun j hj x => by
    have g := N.zo.get hj
    have e := getD_get hj
    rw [e]
    exact ⟨g.1, g.2, Int.emod_nonneg _ (by omega), g.2.emod (by omega)⟩
  rcases hQ with ⟨m, hm, heq, hne, rfl⟩ | ⟨heq, hQ⟩
  · refine s_leave (s_forNX 5 m nd (i_rng1 (n := o.length) hh.b_range (x_lenI hh.b_len (x_ix (x_v 0) x_int (nestD_it o i) rfl)) (by omega) (by omega)) R ⟨.inr rfl, .inr rfl, .inr rfl, .inr rfl, .inr rfl, .inl rfl, .inl rfl, .inl rfl, .inl rfl, .inl rfl, .inl rfl, .inl rfl, .inl rfl, .inl rfl, .inl rfl, .inl rfl, trivial⟩ (by rw [rngD_len]; omega) (fun t d ht htm => ?_) (show loopOut (outF (anys 16) _) by trivial) (fun d ht => ?_)) rfl
    · obtain ⟨_, rfl⟩ := rngD_get ht
      have ht : t < o.length := by omega
      rw [show (0 : Int) + (t : Int) * 1 = (t : Int) by omega]
      have f1 := fB t ht (view.getD t 0 + wcP o view t)
      have f2 := fB t ht (view.getD (view.length - 1 - t) 0 + wcP o view t)
      have e1 := wF_eq N view ht
      have e2 := wL_eq N view ht
      have hq := heq t htm
      refine s_seq (s_asg4 6 7 8 9 nd (a := .int 2) (b := .int (spanI o (corOf i).many t)) (c := .int (o.getD t 0)) (d := .int ((o.getD t 0 - 1) * pr (o.take t))) (x_is (x_row t (x_v 1) (x_add x_int (x_v 5)) rfl (by omega)) (by rw [rowW_o ht]; rfl))) ?_
      refine s_seq (s_set (d := .int (wF o view (corOf i).many t)) 10 nd (x_is (x_mod (x_add (x_ixI (n := t) (x_v 3) (x_v 5) rfl (by omega)) (x_v 4)) (x_v 8) (by omega)) (by rw [e1, getD_get (l := view) (by omega)]))) ?_
      refine s_seq (s_set (d := .int (wL o view (corOf i).many t)) 11 nd (x_is (x_mod (x_add (x_ixI (n := view.length - 1 - t) (x_v 3) (x_sub (x_sub (x_lenI hh.b_len (x_v 2)) x_int) (x_v 5)) (by omega) (by omega)) (x_v 4)) (x_v 8) (by omega)) (by rw [e2, getD_get (l := view) (by omega)]))) ?_
      refine r_skip (t_is (t_W (w_or (t_lt (x_v 10) (x_v 11)) (fun _ => w_or1 (t_eq (x_v 10) (x_add (x_v 11) x_int) rfl)))) (by rw [hq]; simp; omega)) ?_
      refine r_skip (t_is (t_ne (x_v 10) (x_v 11) rfl) (by rw [hq]; simp)) ?_
      refine s_seq (s_set (d := .int (wcP o view (t + 1))) 4 nd (x_is (x_add (x_mul (x_v 4) (x_v 8) (cB t (by omega)) f1.2.1 (by decide)) (x_v 10)) (by rw [e1]; rfl))) ?_
      exact s_nil ⟨.inr rfl, .inr rfl, .inr rfl, .inr rfl, .inr rfl, .inl rfl, .inl rfl, .inl rfl, .inl rfl, .inl rfl, .inl rfl, .inl rfl, .inl rfl, .inl rfl, .inl rfl, .inl rfl, trivial⟩
    · obtain ⟨_, rfl⟩ := rngD_get ht
      rw [show (0 : Int) + (m : Int) * 1 = (m : Int) by omega]
      have f1 := fB m hm (view.getD m 0 + wcP o view m)
      have f2 := fB m hm (view.getD (view.length - 1 - m) 0 + wcP o view m)
      have e1 := wF_eq N view hm
      have e2 := wL_eq N view hm
      have sB := spanI_pos N.zo hcm m
      have sB2 : Bd 1700 (spanI o (corOf i).many m) := (N.span hm).2.1
      rw [← e1] at f1
      rw [← e2] at f2
      have mB : Bd 41 (max (wF o view (corOf i).many m) (wL o view (corOf i).many m)) := by
        rcases Int.le_total (wF o view (corOf i).many m) (wL o view (corOf i).many m) with z | z
        · rw [Int.max_eq_right z]; exact f2.2.2.2
        · rw [Int.max_eq_left z]; exact f1.2.2.2
      refine s_seq (s_asg4 6 7 8 9 nd (a := .int 2) (b := .int (spanI o (corOf i).many m)) (c := .int (o.getD m 0)) (d := .int ((o.getD m 0 - 1) * pr (o.take m))) (x_is (x_row m (x_v 1) (x_add x_int (x_v 5)) rfl (by omega)) (by rw [rowW_o hm]; rfl))) ?_
      refine s_seq (s_set (d := .int (wF o view (corOf i).many m)) 10 nd (x_is (x_mod (x_add (x_ixI (n := m) (x_v 3) (x_v 5) rfl (by omega)) (x_v 4)) (x_v 8) (by omega)) (by rw [e1, getD_get (l := view) (by omega)]))) ?_
      refine s_seq (s_set (d := .int (wL o view (corOf i).many m)) 11 nd (x_is (x_mod (x_add (x_ixI (n := view.length - 1 - m) (x_v 3) (x_sub (x_sub (x_lenI hh.b_len (x_v 2)) x_int) (x_v 5)) (by omega) (by omega)) (x_v 4)) (x_v 8) (by omega)) (by rw [e2, getD_get (l := view) (by omega)]))) ?_
      unfold wkOut
      by_cases hlt : wL o view (corOf i).many m < wF o view (corOf i).many m - 1
      · rw [if_pos hlt]
        refine r_skip (t_is (t_W (w_or (t_lt (x_v 10) (x_v 11)) (fun _ => w_or1 (t_eq (x_v 10) (x_add (x_v 11) x_int) rfl)))) (by simp; omega)) ?_
        exact r_take (t_is (t_ne (x_v 10) (x_v 11) rfl) (by simp; exact hne)) (r_ret (x_is (x_tup (a_cons x_str (a_cons (x_sub (x_sub (x_lenI hh.b_len (x_v 2)) x_int) (x_v 5)) a_nil)) (Nat.le_of_ble_eq_true rfl)) (by rw [tl]; rfl)) sa) rfl
      · rw [if_neg hlt]
        refine r_take (t_is (t_W (w_or (t_lt (x_v 10) (x_v 11)) (fun _ => w_or1 (t_eq (x_v 10) (x_add (x_v 11) x_int) rfl)))) (by simp; omega)) (r_ret (x_is (x_mul (x_add (x_mul (x_v 4) (x_v 8) (cB m (by omega)) f1.2.1 (by decide)) (x_max hh.b_max rfl (x_v 10) (x_v 11))) (x_v 7) (((cB m (by omega)).mul f1.2.1).add mB) sB2 (by decide)) ?_) sa) rfl
        show D.int _ = D.int _
        rw [spanI_cp N view hm]
  refine s_seq (s_forN 5 nd (i_rng1 (n := o.length) hh.b_range (x_lenI hh.b_len (x_ix (x_v 0) x_int (nestD_it o i) rfl)) (by omega) (by omega)) R ⟨.inr rfl, .inr rfl, .inr rfl, .inr rfl, .inr rfl, .inl rfl, .inl rfl, .inl rfl, .inl rfl, .inl rfl, .inl rfl, .inl rfl, .inl rfl, .inl rfl, .inl rfl, .inl rfl, trivial⟩ (fun t d ht => ?_)) ?_
  · obtain ⟨_, rfl⟩ := rngD_get ht
    have ht : t < o.length := by omega
    rw [show (0 : Int) + (t : Int) * 1 = (t : Int) by omega]
    have f1 := fB t ht (view.getD t 0 + wcP o view t)
    have f2 := fB t ht (view.getD (view.length - 1 - t) 0 + wcP o view t)
    have e1 := wF_eq N view ht
    have e2 := wL_eq N view ht
    have hq := heq t ht
    refine s_seq (s_asg4 6 7 8 9 nd (a := .int 2) (b := .int (spanI o (corOf i).many t)) (c := .int (o.getD t 0)) (d := .int ((o.getD t 0 - 1) * pr (o.take t))) (x_is (x_row t (x_v 1) (x_add x_int (x_v 5)) rfl (by omega)) (by rw [rowW_o ht]; rfl))) ?_
    refine s_seq (s_set (d := .int (wF o view (corOf i).many t)) 10 nd (x_is (x_mod (x_add (x_ixI (n := t) (x_v 3) (x_v 5) rfl (by omega)) (x_v 4)) (x_v 8) (by omega)) (by rw [e1, getD_get (l := view) (by omega)]))) ?_
    refine s_seq (s_set (d := .int (wL o view (corOf i).many t)) 11 nd (x_is (x_mod (x_add (x_ixI (n := view.length - 1 - t) (x_v 3) (x_sub (x_sub (x_lenI hh.b_len (x_v 2)) x_int) (x_v 5)) (by omega) (by omega)) (x_v 4)) (x_v 8) (by omega)) (by rw [e2, getD_get (l := view) (by omega)]))) ?_
    refine r_skip (t_is (t_W (w_or (t_lt (x_v 10) (x_v 11)) (fun _ => w_or1 (t_eq (x_v 10) (x_add (x_v 11) x_int) rfl)))) (by rw [hq]; simp; omega)) ?_
    refine r_skip (t_is (t_ne (x_v 10) (x_v 11) rfl) (by rw [hq]; simp)) ?_
    refine s_seq (s_set (d := .int (wcP o view (t + 1))) 4 nd (x_is (x_add (x_mul (x_v 4) (x_v 8) (cB t (by omega)) f1.2.1 (by decide)) (x_v 10)) (by rw [e1]; rfl))) ?_
    exact s_nil ⟨.inr rfl, .inr rfl, .inr rfl, .inr rfl, .inr rfl, .inl rfl, .inl rfl, .inl rfl, .inl rfl, .inl rfl, .inl rfl, .inl rfl, .inl rfl, .inl rfl, .inl rfl, .inl rfl, trivial⟩
  rw [rngD_len, Int.toNat_natCast]
  have ew := wk_end N view
  rcases hQ with ⟨hi, rfl⟩ | ⟨hi, es, bs, E, B, Eb, Bb, rfl⟩
  · refine r_take (t_is (t_eqT (ns := i) (ms := []) hr (x_ix (x_v 0) x_int (nestD_it o i) rfl) (x_tup (ds := []) a_nil (Nat.le_of_ble_eq_true rfl))) (decide_eq_true hi)) (r_ret (x_is (x_v 4) ?_) sa) rfl
    show D.int _ = D.int _
    rw [ew, hi]
    show D.int _ = D.int (_ * 1)
    rw [Int.mul_one]
  · have hip := List.length_pos_iff.mpr hi
    have Wc := W_core W
    have V := VT_core N view
    have hb := bs_both Wc V E Eb B Bb
    rw [rgI_len] at hb
    have sl : (wkSeen o i view (corOf i).many).length = i.length := wkSeen_len
    refine r_skip (t_is (t_eqT (ns := i) (ms := []) hr (x_ix (x_v 0) x_int (nestD_it o i) rfl) (x_tup (ds := []) a_nil (Nat.le_of_ble_eq_true rfl))) (decide_eq_false hi)) ?_
    refine s_seq (s_set (d := .int o.length) 12 nd (x_lenI hh.b_len (x_ix (x_v 0) x_int (nestD_it o i) rfl))) ?_
    refine s_seq (s_setN 13 nd (n_lst (ds := []) a_nil (by decide))) ?_
    refine s_seq (s_forN 5 nd (i_rng2 (lo := o.length) (n := (o.length : Int) + i.length) hh.b_range (x_v 12) (x_add (x_v 12) (x_lenI hh.b_len (x_ix (x_v 0) x_int (nestD_it o i) rfl))) (by omega)) (fun j => [.val (nestD o i), .val (worldD o i), .val (.tup (dInts tour)), .val (.tup (dInts view)), .val (.int (wcP o view o.length)), .any, .any, .any, .any, .any, .any, .any, .val (.int o.length), .own (.lst (dInts ((wkSeen o i view (corOf i).many).take j))), .any, .any]) ⟨.inr rfl, .inr rfl, .inr rfl, .inr rfl, .inr rfl, .inl rfl, .inl rfl, .inl rfl, .inl rfl, .inl rfl, .inl rfl, .inl rfl, .inr rfl, .inr rfl, .inl rfl, .inl rfl, trivial⟩ (fun t d ht => ?_)) ?_
    · obtain ⟨hl, rfl⟩ := rngD_get ht
      have ht : t < i.length := by omega
      rw [show (o.length : Int) + (t : Int) * 1 = ((o.length + t : Nat) : Int) by omega]
      have hw := row_ok W (k := o.length + t) (by omega)
      have sP := hw.s2
      refine s_seq (s_app (d := .int ((wkSeen o i view (corOf i).many)[t]'(by omega))) 13 (x_is (x_mod (x_sub (x_ixI (n := o.length + t) (x_v 3) (x_v 5) rfl (by omega)) (x_mul (x_v 4) (x_rw 3 (x_row (o.length + t) (x_v 1) (x_add x_int (x_v 5)) rfl (by omega)) x_int rfl rfl) (cB o.length (Nat.le_refl _)) hw.eB (by decide))) (x_rw 2 (x_row (o.length + t) (x_v 1) (x_add x_int (x_v 5)) rfl (by omega)) x_int rfl rfl) (by omega)) (by rw [wkSeen_at N view ht]; unfold cvW; rw [getD_get (l := view) (by omega)])) rfl (.inl rfl) (by rw [dInts_len, List.length_take]; omega)) ?_
      exact s_nil ⟨.inr rfl, .inr rfl, .inr rfl, .inr rfl, .inr rfl, .inl rfl, .inl rfl, .inl rfl, .inl rfl, .inl rfl, .inl rfl, .inl rfl, .inr rfl, .inr (by rw [take_seen (by omega)]; rfl), .inl rfl, .inl rfl, trivial⟩
    have en : (rngD (o.length : Int) 1 ((o.length : Int) + i.length - o.length).toNat).length = i.length := by rw [rngD_len]; omega
    rw [en, ← sl, List.take_length, sl]
    refine s_freeze 13 (ds := dInts (wkSeen o i view (corOf i).many)) ?_
    have et : rgI 0 (((wkSeen o i view (corOf i).many).length : Int) - 0).toNat = rgI 0 i.length := by rw [sl]; congr 1
    refine s_seq (s_asg2 14 15 nd (a := earlyD es i.length) (b := lateD bs i.length) (x_is (x_f (fo_law_spans hh) hr (a_cons (x_f (fo_law_world hh) hr (a_cons (x_tup (ds := [.tup (dInts []), .tup (dInts i)]) (a_cons (x_tup (ds := []) a_nil (Nat.le_of_ble_eq_true rfl)) (a_cons (x_ix (x_v 0) x_int (nestD_it o i) rfl) a_nil)) (Nat.le_of_ble_eq_true rfl)) a_nil) ⟨[], i, rfl, rfl, Wc.ho, N.zi, N.bM⟩) (a_cons (x_tupRg hh.b_tuple (rg_1 hh.b_range (x_lenQ .l hh.b_len (x_v 13))) (by omega)) (a_cons (x_v 13) a_nil))) ⟨[], i, rgI 0 i.length, wkSeen o i view (corOf i).many, _, es, bs, by rw [et], rfl, .l, Wc, fullL Wc.ho N.zi, V.tv Wc, E, B⟩) (by rw [rgI_len]))) ?_
    unfold wkEnd
    by_cases hf : es.length = i.length
    · have hbl := hb hf
      have e1 : earlyD es i.length = .tup (dInts es) := if_pos hf
      have e2 : lateD bs i.length = .tup (dInts bs.reverse) := if_pos hbl
      rw [e1, e2, if_pos hf]
      have h0 : 0 < es.length := by omega
      refine r_skip (t_is (t_eq (x_ixI (n := 0) (x_v 14) x_int rfl h0) x_str rfl) rfl) ?_
      refine r_ret (x_is (x_add (x_mul (x_v 4) (x_w1 (x_v 1) x_int) (cB o.length (Nat.le_refl _)) W.hM (by decide)) (x_ix (d1 := .tup (dInts bs.reverse)) (ds := dInts bs.reverse) (x_v 15) x_int rfl (atI_rev0 hbl (by omega)))) ?_) sa
      show D.int _ = D.int _
      rw [ew]
    · have e1 : earlyD es i.length = unsD es.length := if_neg hf
      rw [e1, if_neg hf]
      refine r_take (t_is (t_eq (x_ix (d1 := unsD es.length) (ds := [.str "unseen", .int es.length]) (x_v 14) x_int rfl rfl) x_str rfl) (decide_eq_true rfl)) (r_ret (x_tup (ds := [.str "unseen", .int ((o.length : Int) + es.length)]) (a_cons x_str (a_cons (x_add (x_v 12) (x_ix (d1 := unsD es.length) (ds := [.str "unseen", .int es.length]) (x_v 14) x_int rfl rfl)) a_nil)) (Nat.le_of_ble_eq_true rfl)) sa) rfl
end Sd

namespace Sd
open PySem PySem.Spec L2
open PyProof.Rows (envOfC)

/-! ### x is True, x is False -/
theorem op_isB {X : Cx} : OpR X (compareOp .Is) (fun x y H Q => ∃ b : Bool, y = .bl b ∧ Q (.bl (decide (x = .bl b))) H) := by
  intro pins s σ H x y v u Q I rx ry h
  obtain ⟨b, rfl, q⟩ := h
  cases (show u = Value.bool b from ry)
  have pl : plainIs v (.bool b) = true ∧ ((v == Value.bool b) = decide (x = .bl b)) := by
    cases x with
    | non => cases (show v = Value.none from rx); exact ⟨rfl, by simp⟩
    | bl c =>
      cases (show v = Value.bool c from rx)
      refine ⟨rfl, ?_⟩
      by_cases e : c = b
      · subst e; simp
      · have : Value.bool c ≠ Value.bool b := fun z => e (Value.bool.inj z)
        simp [e, this]
    | int _ => obtain ⟨t, rfl⟩ := rx; exact ⟨rfl, by simp⟩
    | str _ => obtain ⟨t, rfl⟩ := rx; exact ⟨rfl, by simp⟩
    | byt _ => obtain ⟨t, rfl⟩ := rx; exact ⟨rfl, by simp⟩
    | flt _ => obtain ⟨t, rfl⟩ := rx; exact ⟨rfl, by simp⟩
    | ref _ => cases rx; exact ⟨rfl, by simp⟩
    | ty _ => cases rx; exact ⟨rfl, by simp⟩
  exact wpAny_is_plain pl.1 ⟨.bl _, H, I, by rw [pl.2]; rfl, q⟩
def isBlD (b : Bool) : D → Bool
  | .bl c => decide (c = b)
  | _ => false
theorem isBl_of {M : Hp} {d : D} {x : V} {b : Bool} (h : At M d x) : decide (x = .bl b) = isBlD b d := by
  cases d <;> simp only [At] at h
  · subst h; simp [isBlD]
  · subst h; simp [isBlD]
  · subst h; simp [isBlD]
  · subst h; simp [isBlD]
  all_goals
    obtain ⟨a, h⟩ := h
  · obtain ⟨xs, e, _⟩ := h; subst e; simp [isBlD]
  · obtain ⟨xs, e, _⟩ := h; subst e; simp [isBlD]
  · obtain ⟨dx, xs, e, _⟩ := h; subst e; simp [isBlD]
  · obtain ⟨ob, xs, e, _⟩ := h; subst e; simp [isBlD]
  · obtain ⟨e, _⟩ := h; subst e; simp [isBlD]
section
variable {X : Cx} {ρ : List Sl} {d : D} {e1 : Expr} {b : Bool} {j : Nat} {p1 pos : Pos}
theorem op2_isB : Op2 (fun x y H Q => ∃ b : Bool, y = .bl b ∧ Q (.bl (decide (x = .bl b))) H) d (.bl b) (.bl (isBlD b d)) := fun B M0 bb ρ P σ H x y S uP Q k => by
  obtain ⟨⟨M, e, h2, h1⟩, S1⟩ := S.two uP
  have ey : y = .bl b := h2
  subst ey
  exact ⟨b, rfl, k _ H (S1.put fun M => by rw [isBl_of h1]; rfl)⟩
theorem x_isB (h1 : PE X e1 (tD ρ d)) : PE X (.Compare e1 [.Is] [.Constant (.bool b) j p1] pos) (tD ρ (.bl (isBlD b d))) := x_cmp op_isB op2_isB h1 x_bl (nomark _)
theorem t_isB (h1 : PE X e1 (tD ρ d)) : PT X (.Compare e1 [.Is] [.Constant (.bool b) j p1] pos) (tT ρ (isBlD b d)) := t_cmp op_isB op2_isB h1 x_bl (nomark _)
end
/-! ### the law's own comparison, of a thing with itself -/
def sclD : D → Bool
  | .non => true
  | .bl _ => true
  | .int _ => true
  | .str _ => true
  | _ => false
abbrev nmSame : List Str := ["_law_found", "_law_due", "_law_k"]
theorem wk_same {Y : Wo} (hh : Y.hd) (cdv : Value) (A : Around) (outer : List Env) (s : Shared) (H : Hp) (E : XK) (d : D) (hd : sclD d = true) : PSs (cxY Y ds_law_same nmSame (He.ga Y.K "_law_same") cdv A outer s H E) ds_law_same.body (tS (wE E) (cuA Y.K) (entry nmSame [d, d]) (outF (anys nmSame.length) (.ok (.bl true)))) := by
  have isi : ∀ {t : String}, tyD d = some t → kitB t "tuple" = some false → PSs (cxY Y ds_law_same nmSame (He.ga Y.K "_law_same") cdv A outer s H E) (ds_law_same.body.drop 1) (tS (wE E) (cuA Y.K) (entry nmSame [d, d]) (outF (anys nmSame.length) (.ok (.bl true)))) → PSs (cxY Y ds_law_same nmSame (He.ga Y.K "_law_same") cdv A outer s H E) ds_law_same.body (tS (wE E) (cuA Y.K) (entry nmSame [d, d]) (outF (anys nmSame.length) (.ok (.bl true)))) := fun a b c => by
    refine r_skip (ρ2 := [.val d, .val d, .any]) (t_val (x_isi a b hh.b_isinstance hh.b_tuple rfl (x_v 1))) c
  cases d with
  | non =>
    refine isi rfl rfl (r_take (t_is (t_isN (x_v 1)) rfl) (r_ret (x_isN' (x_v 0) rfl) sa) rfl)
  | bl b =>
    refine isi rfl rfl (r_skip (t_is (t_isN (x_v 1)) rfl) ?_)
    cases b with
    | true => exact r_take (t_is (t_isB (x_v 1)) rfl) (r_ret (x_is (x_isB (b := true) (d := .bl true) (x_v 0)) rfl) sa) rfl
    | false => exact r_skip (t_is (t_isB (x_v 1)) rfl) (r_take (t_is (t_isB (x_v 1)) rfl) (r_ret (x_is (x_isB (b := false) (d := .bl false) (x_v 0)) rfl) sa) rfl)
  | int n =>
    refine isi rfl rfl (r_skip (t_is (t_isN (x_v 1)) rfl) (r_skip (t_is (t_isB (x_v 1)) rfl) (r_skip (t_is (t_isB (x_v 1)) rfl) (r_skip (t_val (x_isi rfl rfl hh.b_isinstance hh.b_str rfl (x_v 1))) ?_))))
    exact r_ret (x_andT (x_isi (d := .int n) (c := true) rfl rfl hh.b_isinstance hh.b_int rfl (x_v 0)) (x_andT (x_is (x_not (x_isi (d := .int n) (c := false) rfl rfl hh.b_isinstance hh.b_bool rfl (x_v 0))) rfl) (x_one (x_is (x_eq (x_v 0) (x_v 1) rfl) (congrArg D.bl (decide_eq_true rfl)))))) sa
  | str w =>
    refine isi rfl rfl (r_skip (t_is (t_isN (x_v 1)) rfl) (r_skip (t_is (t_isB (x_v 1)) rfl) (r_skip (t_is (t_isB (x_v 1)) rfl) (r_take (t_val (x_isi rfl rfl hh.b_isinstance hh.b_str rfl (x_v 1))) ?_ rfl))))
    exact r_ret (x_andT (x_isi (d := .str w) (c := true) rfl rfl hh.b_isinstance hh.b_str rfl (x_v 0)) (x_one (x_is (x_eq (x_v 0) (x_v 1) rfl) (congrArg D.bl (decide_eq_true rfl))))) sa
  | tup _ => cases hd
  | lst _ => cases hd
  | ins _ _ _ => cases hd
  | tpf _ => cases hd
  | arg _ _ => cases hd
def F_same0 (ds : List D) (r : Res) : Prop := ∃ d, ds = [d, d] ∧ r = .ok (.bl true) ∧ sclD d = true
theorem sc_same : FnScope nmSame ["_law_found", "_law_due"] (defScope s_law_same) := ⟨rfl, rfl, rfl, by decide +kernel, rfl, by decide +kernel, by decide +kernel⟩
theorem fo_law_same0 {Y : Wo} (hh : Y.hd) : Fo Y 1 "_law_same" ["_law_found", "_law_due"] F_same0 := by
  refine mkF (k := 0) (N := nmSame) hh 50 ds_law_same sc_same (fun _ _ _ _ _ _ us hl => match us, hl with | [_, _], _ => rfl) (by rintro ds r ⟨d, rfl, rfl, hd⟩; rfl) ?_
  rintro cdv A outer s H E ds r hr ⟨d, rfl, rfl, hd⟩
  exact wk_same hh cdv A outer s H E d hd
/-- what is compared: a plain thing, or a tuple of plain things -/
def sameOk : D → Prop
  | .tup es => es.length ≤ 1000 ∧ ∀ e ∈ es, sclD e = true
  | d => sclD d = true
def F_law_same (ds : List D) (r : Res) : Prop := ∃ d, ds = [d, d] ∧ r = .ok (.bl true) ∧ sameOk d
theorem fo_law_same {Y : Wo} (hh : Y.hd) : Fo Y 2 "_law_same" ["_law_found", "_law_due"] F_law_same := by
  have nd : nmSame.Nodup := sc_same.nd
  refine mkF (k := 1) (N := nmSame) hh 50 ds_law_same sc_same (fun _ _ _ _ _ _ us hl => match us, hl with | [_, _], _ => rfl) (by rintro ds r ⟨d, rfl, rfl, hd⟩; rfl) ?_
  rintro cdv A outer s H E ds r hr ⟨d, rfl, rfl, hd⟩
  have sc : ∀ d, sclD d = true → PSs (cxY Y ds_law_same nmSame (He.ga Y.K "_law_same") cdv A outer s H E) ds_law_same.body (tS (wE E) (cuA Y.K) (entry nmSame [d, d]) (outF (anys nmSame.length) (.ok (.bl true)))) := fun d h => wk_same hh cdv A outer s H E d h
  cases d with
  | non => exact sc _ hd
  | bl b => exact sc _ hd
  | int n => exact sc _ hd
  | str w => exact sc _ hd
  | lst _ => cases hd
  | ins _ _ _ => cases hd
  | tpf _ => cases hd
  | arg _ _ => cases hd
  | tup es =>
    obtain ⟨hl, he⟩ := hd
    refine r_take (t_val (c := true) (x_isi (d := .tup es) rfl rfl hh.b_isinstance hh.b_tuple rfl (x_v 1))) ?_ rfl
    refine r_skip (t_is (t_W (w_or (t_not (t_val (c := true) (x_isi (d := .tup es) rfl rfl hh.b_isinstance hh.b_tuple rfl (x_v 0)))) (fun _ => w_or1 (t_ne (x_len (d := .tup es) (ds := es) rfl hh.b_len (x_v 0)) (x_len (d := .tup es) (ds := es) rfl hh.b_len (x_v 1)) rfl)))) (by simp)) ?_
    refine s_seq (s_forN 2 nd (i_rng1 (n := es.length) hh.b_range (x_len (d := .tup es) (ds := es) rfl hh.b_len (x_v 1)) (by omega) (by omega)) (fun _ => [.val (.tup es), .val (.tup es), .any]) ⟨.inr rfl, .inr rfl, .inl rfl, trivial⟩ (fun j d hj => ?_)) ?_
    · obtain ⟨h, rfl⟩ := rngD_get hj
      have hj : j < es.length := by omega
      have ej : (0 : Int) + (j : Int) * 1 = (j : Int) := by omega
      rw [ej]
      have hg : es[j]? = some es[j] := List.getElem?_eq_getElem hj
      refine s_one (s_ifF (t_is (t_not (t_val (c := true) (x_f (fo_law_same0 hh) hr (a_cons (x_ix (d1 := .tup es) (ds := es) (x_v 0) (x_v 2) rfl (atI_nat hg)) (a_cons (x_ix (d1 := .tup es) (ds := es) (x_v 1) (x_v 2) rfl (atI_nat hg)) a_nil)) ⟨_, rfl, rfl, he _ (List.getElem_mem hj)⟩))) rfl) pss_never (s_nil ⟨.inr rfl, .inr rfl, .inl rfl, trivial⟩))
    · exact r_ret x_bl sa
end Sd

namespace Sd
open PySem PySem.Spec L2
open PyProof.Rows (envOfC)

theorem tourI_get {n m : Nat} {j : Nat} (h : j < (tourI n m).length) : ∃ k : Nat, (tourI n m)[j] = (k : Int) ∧ k < n + m := by
  have hm := tourI_mem (List.getElem_mem h)
  exact ⟨((tourI n m)[j]).toNat, by omega, by omega⟩
theorem VT_of {o i view : List Int} (N : NOk o i) (hv : viewOk o i view) : VT o i (tourI o.length i.length) view := by
  have l1 := N.zo.len
  have l2 := N.zi.len
  have tl := tourI_len o.length i.length
  refine ⟨by omega, hv.1, fun j h1 h2 => ?_⟩
  obtain ⟨k, a, b⟩ := tourI_get h1
  have hp : j < (picks (o ++ i) (tourI o.length i.length)).length := by rw [picks_len]; exact h1
  have q := hv.2 j hp h2
  have e : (picks (o ++ i) (tourI o.length i.length))[j] = (o ++ i).getD k 0 := by
    have q : (picks (o ++ i) (tourI o.length i.length))[j]? = some ((o ++ i).getD k 0) := by
      unfold picks
      rw [List.getElem?_map, List.getElem?_eq_getElem h1, a]; rfl
    exact (List.getElem?_eq_some_iff.mp q).2
  rw [e] at q
  exact ⟨k, a, b, q.1, q.2⟩
def duesL (es bs : List Int) (n : Nat) (r' : Res) : List D := (List.range 10).map fun a => catD (heardR es bs n r' a)
theorem duesL_get {es bs : List Int} {n : Nat} {r' : Res} {a : Nat} (h : a < 10) : (duesL es bs n r')[a]? = some (catD (heardR es bs n r' a)) := by unfold duesL; rw [List.getElem?_map, List.getElem?_range h]; rfl
theorem scl_ints (ns : List Int) : ∀ e ∈ dInts ns, sclD e = true := fun e he => by
  obtain ⟨n, _, rfl⟩ := List.mem_map.mp he; rfl
theorem same_uns (k : Int) : sameOk (unsD k) := ⟨by show 2 ≤ 1000; decide, fun e he => by
  rcases List.mem_cons.mp he with z | he
  · rw [z]; rfl
  · rcases List.mem_cons.mp he with z | he
    · rw [z]; rfl
    · cases he⟩
theorem same_ints {ns : List Int} (h : ns.length ≤ 1000) : sameOk (.tup (dInts ns)) := ⟨by rw [dInts_len]; exact h, scl_ints ns⟩
theorem wk_scl {o i view : List Int} {r' : Res} (h : WkQ o i view r') : sameOk (catD (sndR r')) := by
  rcases h with ⟨m, _, _, _, rfl⟩ | ⟨_, ⟨_, rfl⟩ | ⟨_, es, bs, _, _, _, _, rfl⟩⟩
  · unfold wkOut
    split
    · exact same_uns _
    · exact (rfl : sclD (.int _) = true)
  · exact (rfl : sclD (.int _) = true)
  · unfold wkEnd
    split
    · exact (rfl : sclD (.int _) = true)
    · exact same_uns _
theorem heard_same {es bs : List Int} {n : Nat} {r' : Res} (hn : n ≤ 1000) (hw : sameOk (catD (sndR r'))) : ∀ a, a < 10 → sameOk (catD (heardR es bs n r' a)) := by
  have s1 : ∀ k, sameOk (catD (resE es n k)) := fun k => by
    unfold resE
    split
    · exact same_ints (by omega)
    · exact same_uns _
  have s2 : sameOk (catD (spanR es bs n)) := by
    unfold spanR
    split
    · exact same_ints (ns := [bs.getD (n - 1) 0, es.getD (n - 1) 0]) (by show 2 ≤ 1000; decide)
    · exact same_uns _
  have s3 : sameOk (catD (toldR es bs n)) := by
    unfold toldR
    split
    · exact (rfl : sclD (.int _) = true)
    · exact same_uns _
  have s4 : sameOk (catD (resB bs n)) := by
    unfold resB
    split
    · exact same_ints (by rw [List.length_reverse]; omega)
    · exact same_uns _
  have s5 : sameOk (catD (.ok (seenR es n))) := (rfl : sclD (.bl _) = true)
  intro a ha
  match a, ha with
  | 0, _ => exact s1 _
  | 1, _ => exact s4
  | 2, _ => exact s2
  | 3, _ => exact s3
  | 4, _ => exact s2
  | 5, _ => exact s3
  | 6, _ => exact s5
  | 7, _ => exact s5
  | 8, _ => exact hw
  | 9, _ => exact hw
/-! ### _law_told -/
def F_law_told (Y : Wo) (ds : List D) (r : Res) : Prop := ∃ (o i view : List Int), ds = [nestD o i, tellD Y.K o i, worldD o i, .tup (dInts (tourI o.length i.length)), .tup (dInts view)] ∧ r = .ok (.bl true) ∧ NOk o i ∧ viewOk o i view
theorem sc_law_told : FnScope ["_law_nest_here", "_law_teller", "_law_world_here", "_law_tour", "_law_view", "_law_early", "_law_late", "_law_dues", "_law_span", "_law_weak_here", "_law_asked"] ["_law_nest_here", "_law_teller", "_law_world_here", "_law_tour", "_law_view"] (defScope s_law_told) := ⟨rfl, rfl, rfl, by decide +kernel, rfl, by decide +kernel, by decide +kernel⟩
theorem fo_law_told {Y : Wo} (hh : Y.hd) : Fo Y 15 "_law_told" ["_law_nest_here", "_law_teller", "_law_world_here", "_law_tour", "_law_view"] (F_law_told Y) := by
  have nd : (["_law_nest_here", "_law_teller", "_law_world_here", "_law_tour", "_law_view", "_law_early", "_law_late", "_law_dues", "_law_span", "_law_weak_here", "_law_asked"] : List Str).Nodup := sc_law_told.nd
  refine mkF (k := 14) (N := ["_law_nest_here", "_law_teller", "_law_world_here", "_law_tour", "_law_view", "_law_early", "_law_late", "_law_dues", "_law_span", "_law_weak_here", "_law_asked"]) hh 67 ds_law_told sc_law_told (fun _ _ _ _ _ _ us hl => match us, hl with | [_, _, _, _, _], _ => rfl) (by rintro ds r ⟨o, i, view, rfl, rfl, N, hv⟩; rfl) ?_
  rintro cdv A outer s H E ds r hr ⟨o, i, view, rfl, rfl, N, hv⟩
  have l1 := N.zo.len
  have l2 := N.zi.len
  have tl := tourI_len o.length i.length
  have vl := viewOk_len hv
  have W := W_of N
  have V := VT_of N hv
  have hp := vN_pos N
  obtain ⟨es, E, Eb⟩ := early_ex W V
  obtain ⟨bs, B, Bb⟩ := late_ex W V
  obtain ⟨r', hQ⟩ := wkQ_ex N view
  have hb := bs_both W V E Eb B Bb
  have S : SpN Y o i view es bs := ⟨N, hv, end_nest N V E Eb, beg_nest N V B Bb, hb⟩
  have hn : vN o i ≤ 1000 := by show (tourI o.length i.length).length ≤ 1000; omega
  have hsame := heard_same (es := es) (bs := bs) hn (wk_scl hQ)
  refine s_seq (s_asg2 5 6 nd (a := earlyD es (vN o i)) (b := lateD bs (vN o i)) (x_f (fo_law_spans hh) hr (a_cons (x_v 2) (a_cons (x_v 3) (a_cons (x_v 4) a_nil))) ⟨o, i, _, view, _, es, bs, rfl, rfl, .t, W, fullL N.zo N.zi, V.tv W, E, B⟩)) ?_
  have weak : ∀ {d7 d8 : Sl} {sts : List Stmt} {out : Out}, True := fun {_ _ _ _} => trivial
  refine r_if (ρ2 := [.val (nestD o i), .val (tellD Y.K o i), .val (worldD o i), .val (.tup (dInts (tourI o.length i.length))), .val (.tup (dInts view)), .val (earlyD es (vN o i)), .val (lateD bs (vN o i)), .any, .any, .any, .any]) (ρ1 := [.val (nestD o i), .val (tellD Y.K o i), .val (worldD o i), .val (.tup (dInts (tourI o.length i.length))), .val (.tup (dInts view)), .any, .any, .val (.lst ((duesL es bs (vN o i) r').take 8)), .any, .any, .any]) (c := !decide (es.length = vN o i)) ?_ (fun hc => ?_) (fun hc => ?_) ?_
  · by_cases hf : es.length = vN o i
    · rw [decide_eq_true hf, show earlyD es (vN o i) = .tup (dInts es) from if_pos hf]
      exact t_is (t_eq (x_ixI (n := 0) (x_v 5) x_int rfl (by omega)) x_str rfl) rfl
    · rw [decide_eq_false hf, show earlyD es (vN o i) = unsD es.length from if_neg hf]
      exact t_is (t_eq (x_ix (d1 := unsD es.length) (ds := [.str "unseen", .int es.length]) (x_v 5) x_int rfl rfl) x_str rfl) (decide_eq_true rfl)
  · have hf : ¬ es.length = vN o i := by simpa using hc
    refine s_seq (s_set (d := .lst ((duesL es bs (vN o i) r').take 8)) 7 nd (x_is (x_lst (k := 0) (ds := [earlyD es (vN o i), lateD bs (vN o i), earlyD es (vN o i), earlyD es (vN o i), earlyD es (vN o i), earlyD es (vN o i), .bl false, .bl false]) (a_cons (x_v 5) (a_cons (x_v 6) (a_cons (x_v 5) (a_cons (x_v 5) (a_cons (x_v 5) (a_cons (x_v 5) (a_cons x_bl (a_cons x_bl a_nil)))))))) (Nat.le_of_ble_eq_true rfl)) ?_)) (s_nil ⟨.inr rfl, .inr rfl, .inr rfl, .inr rfl, .inr rfl, .inl rfl, .inl rfl, .inr rfl, .inl rfl, .inl rfl, .inl rfl, trivial⟩)
    have e0 : earlyD es (vN o i) = unsD es.length := if_neg hf
    have e1 : catD (resE es (vN o i) es.length) = unsD es.length := by unfold resE; rw [if_neg hf]; rfl
    have e2 : catD (resB bs (vN o i)) = lateD bs (vN o i) := by unfold resB lateD; split <;> rfl
    have e3 : catD (spanR es bs (vN o i)) = unsD es.length := by unfold spanR; rw [if_neg hf]; rfl
    have e4 : catD (toldR es bs (vN o i)) = unsD es.length := by unfold toldR; rw [if_neg hf]; rfl
    have e5 : seenR es (vN o i) = .bl false := by unfold seenR; rw [decide_eq_false hf]
    show _ = D.lst [catD (resE es (vN o i) es.length), catD (resB bs (vN o i)), catD (spanR es bs (vN o i)), catD (toldR es bs (vN o i)), catD (spanR es bs (vN o i)), catD (toldR es bs (vN o i)), seenR es (vN o i), seenR es (vN o i)]
    rw [e0, e1, e2, e3, e4, e5]
  · have hf : es.length = vN o i := by simpa using hc
    have hbl : bs.length = vN o i := hb hf
    have e0 : earlyD es (vN o i) = .tup (dInts es) := if_pos hf
    have e0' : lateD bs (vN o i) = .tup (dInts bs.reverse) := if_pos hbl
    have e1 : catD (resE es (vN o i) es.length) = .tup (dInts es) := by unfold resE; rw [if_pos hf]; rfl
    have e2 : catD (resB bs (vN o i)) = .tup (dInts bs.reverse) := by unfold resB; rw [if_pos hbl]; rfl
    have e3 : catD (spanR es bs (vN o i)) = .tup [.int (bs.getD (vN o i - 1) 0), .int (es.getD (vN o i - 1) 0)] := by unfold spanR; rw [if_pos hf]; rfl
    have e4 : catD (toldR es bs (vN o i)) = .int (bs.getD (vN o i - 1) 0) := by unfold toldR; rw [if_pos hf]; rfl
    have e5 : seenR es (vN o i) = .bl true := by unfold seenR; rw [decide_eq_true hf]
    rw [e0, e0']
    have x0 : ∀ {X : Cx} {ρ : List Sl} {e1 e2 : Expr} {p : Pos}, PE X e1 (tD ρ (.tup (dInts bs.reverse))) → PE X e2 (tD ρ (.int 0)) → PlainIx e2 → PE X (.Subscript e1 e2 p) (tD ρ (.int (bs.getD (vN o i - 1) 0))) := fun a b c => x_ix (d1 := .tup (dInts bs.reverse)) (ds := dInts bs.reverse) a b rfl (atI_rev0 hbl hp) c
    refine s_seq (s_set (d := .tup [.int (bs.getD (vN o i - 1) 0), .int (es.getD (vN o i - 1) 0)]) 8 nd (x_tup (a_cons (x0 (x_v 6) x_int (fun _ _ => rfl)) (a_cons (x_ix (d1 := .tup (dInts es)) (ds := dInts es) (x_v 5) (x_neg x_int) rfl (atI_last hf hp)) a_nil)) (Nat.le_of_ble_eq_true rfl))) ?_
    refine s_seq (s_set (d := .lst ((duesL es bs (vN o i) r').take 8)) 7 nd (x_is (x_lst (k := 0) (ds := [.tup (dInts es), .tup (dInts bs.reverse), .tup [.int (bs.getD (vN o i - 1) 0), .int (es.getD (vN o i - 1) 0)], .int (bs.getD (vN o i - 1) 0), .tup [.int (bs.getD (vN o i - 1) 0), .int (es.getD (vN o i - 1) 0)], .int (bs.getD (vN o i - 1) 0), .bl true, .bl true]) (a_cons (x_v 5) (a_cons (x_v 6) (a_cons (x_v 8) (a_cons (x0 (x_v 6) x_int (fun _ _ => rfl)) (a_cons (x_v 8) (a_cons (x0 (x_v 6) x_int (fun _ _ => rfl)) (a_cons x_bl (a_cons x_bl a_nil)))))))) (Nat.le_of_ble_eq_true rfl)) ?_)) (s_nil ⟨.inr rfl, .inr rfl, .inr rfl, .inr rfl, .inr rfl, .inl rfl, .inl rfl, .inr rfl, .inl rfl, .inl rfl, .inl rfl, trivial⟩)
    show _ = D.lst [catD (resE es (vN o i) es.length), catD (resB bs (vN o i)), catD (spanR es bs (vN o i)), catD (toldR es bs (vN o i)), catD (spanR es bs (vN o i)), catD (toldR es bs (vN o i)), seenR es (vN o i), seenR es (vN o i)]
    rw [e1, e2, e3, e4, e5]
  refine s_seq (s_set (d := catD (sndR r')) 9 nd (x_f (fo_law_weak hh) hr (a_cons (x_v 0) (a_cons (x_v 2) (a_cons (x_v 3) (a_cons (x_v 4) a_nil)))) ⟨o, i, _, view, r', rfl, rfl, N, by omega, vl, hQ⟩)) ?_
  refine s_seq (s_set (d := .lst (duesL es bs (vN o i) r')) 7 nd (x_is (x_catL (x_v 7) (x_lst (k := 0) (ds := [catD (sndR r'), catD (sndR r')]) (a_cons (x_v 9) (a_cons (x_v 9) a_nil)) (Nat.le_of_ble_eq_true rfl)) (Nat.le_of_ble_eq_true rfl)) rfl)) ?_
  refine s_seq (s_forN 10 nd (i_rng1 (n := 10) hh.b_range x_int (by decide) (by decide)) (fun _ => [.val (nestD o i), .val (tellD Y.K o i), .any, .any, .val (.tup (dInts view)), .any, .any, .val (.lst (duesL es bs (vN o i) r')), .any, .any, .any]) ⟨.inr rfl, .inr rfl, .inl rfl, .inl rfl, .inr rfl, .inl rfl, .inl rfl, .inr rfl, .inl rfl, .inl rfl, .inl rfl, trivial⟩ (fun a d ha => ?_)) (r_ret x_bl sa)
  obtain ⟨h, rfl⟩ := rngD_get ha
  have h10 : a < 10 := by omega
  rw [show (0 : Int) + (a : Int) * 1 = (a : Int) by omega]
  exact s_one (s_ifF (t_is (t_not (t_val (c := true) (x_f (fo_law_same hh) hr (a_cons (x_f (fo_law_heard hh) hr (a_cons (x_v 0) (a_cons (x_v 1) (a_cons (x_v 4) (a_cons (x_v 10) a_nil)))) ⟨o, i, view, es, bs, r', a, rfl, rfl, S, wkQ_R N hQ, h10⟩) (a_cons (x_ix (d1 := .lst (duesL es bs (vN o i) r')) (ds := duesL es bs (vN o i) r') (x_v 7) (x_v 10) rfl (atI_nat (duesL_get h10))) a_nil)) ⟨_, rfl, rfl, hsame a h10⟩))) rfl) pss_never (s_nil ⟨.inr rfl, .inr rfl, .inl rfl, .inl rfl, .inr rfl, .inl rfl, .inl rfl, .inr rfl, .inl rfl, .inl rfl, .inl rfl, trivial⟩))
end Sd

namespace Sd
open PySem PySem.Spec L2
open PyProof.Rows (envOfC)

/-! ### a drawn moment -/
def kDr (s : Int) (n : Nat) : Nat := (drI s n).toNat
theorem kDr_bd (s : Int) {n : Nat} (h : 1 ≤ n) : drI s n = (kDr s n : Int) ∧ kDr s n < n := by
  have := drI_bd s (show (0 : Int) < (n : Int) by omega)
  unfold kDr
  omega
def unW (o i : List Int) (k : Nat) : Int := if (rowW o i k).sd = 2 then (rowW o i k).u else (corOf i).many
def mmR (o i : List Int) (s : Int) : Int × Int :=
  if drI s 9 < 2 then (nxIt (nxI s) (lapsI (totI o i)), drI s 9 * (totI o i - 1))
  else if drI s 9 < 6 then (nxI (nxI (nxIt (nxI s) (lapsI (totI o i)))), max 0 (min (totI o i - 1) (greatI (nxI s) (totI o i) / unW o i (kDr (nxIt (nxI s) (lapsI (totI o i))) (o.length + i.length)) * unW o i (kDr (nxIt (nxI s) (lapsI (totI o i))) (o.length + i.length)) + drI (nxI (nxIt (nxI s) (lapsI (totI o i)))) 5 - 2)))
  else (nxIt (nxI s) (lapsI (totI o i)), max 0 (min (totI o i - 1) (greatI (nxI s) (totI o i))))
theorem mmR_bd {o i : List Int} (W : WOk o i) (s : Int) : BxI (mmR o i s).1 ∧ 0 ≤ (mmR o i s).2 ∧ (mmR o i s).2 < totI o i := by
  have hT := totI_pos W
  have d := drI_bd s (show (0 : Int) < 9 by decide)
  unfold mmR
  split
  · refine ⟨nxIt_bd (nxI_bd _) _, ?_⟩
    dsimp only
    have : drI s 9 = 0 ∨ drI s 9 = 1 := by omega
    rcases this with e | e <;> rw [e] <;> omega
  · split
    · refine ⟨nxI_bd _, ?_⟩
      dsimp only
      omega
    · refine ⟨nxIt_bd (nxI_bd _) _, ?_⟩
      dsimp only
      omega
theorem greatI_bd {s m : Int} (h : 0 < m) : 0 ≤ greatI s m ∧ greatI s m < m := ⟨Int.emod_nonneg _ (by omega), Int.emod_lt_of_pos _ h⟩
theorem unW_ok {o i : List Int} (W : WOk o i) {k : Nat} (h : k < o.length + i.length) : 0 < unW o i k ∧ Bd 1700 (unW o i k) := by
  have hw := row_ok W h
  unfold unW
  split
  · exact ⟨hw.u0, hw.uB⟩
  · exact ⟨Cor.many_pos (corOf_ok W.hi), W.hM⟩
section
variable {X : Cx} {ρ ρ1 ρ2 : List Sl} {e e2 : Expr} {pos : Pos} {o i : List Int} {x : Int}
/-- world[3 + k], where k is drawn -/
theorem x_rowG (k : Nat) (h1 : PE X e (tG ρ ρ1 (worldD o i))) (h2 : PE X e2 (tG ρ1 ρ2 (.int x))) (hx : x = 3 + (k : Int)) (hk : k < o.length + i.length) (hs : PlainIx e2 := by exact fun _ _ => rfl) : PE X (.Subscript e e2 pos) (tG ρ ρ2 (rowW o i k).D) :=
  x_ix h1 h2 rfl (by rw [hx, show (3 : Int) + (k : Int) = ((3 + k : Nat) : Int) by omega]; exact atI_nat (world_row hk)) hs
theorem x_lenW {p : Pos} (hm : X.mg "len" = none) (h : PE X e (tD ρ (worldD o i))) (hg : Gl X "len" := by rfl) (hs : starEach (e :: []) X.env = (false, eval e X.env) :: starEach [] X.env := by rfl) (hp : (backTo pos (starEach [] X.env)).any (·.1) = false := by rfl) : PE X (.Call (.Name "len" p) [e] [] pos) (tD ρ (.int (3 + ((o.length + i.length : Nat) : Int)))) :=
  x_is (x_len (d := worldD o i) (ds := worldL o i) rfl hm h hg hs hp) (by rw [world_len]; congr 1)
end
/-! ### _law_moment -/
def F_law_moment (bs ds cs : List D) (r : D) : Prop := ∃ (o i : List Int) (s : Int), bs = [.int s] ∧ ds = [worldD o i] ∧ cs = [.int (mmR o i s).1] ∧ r = .int (mmR o i s).2 ∧ WOk o i ∧ 1 ≤ o.length + i.length ∧ BxI s
theorem sc_law_moment : FnScope ["_law_box", "_law_world_here", "_law_turn", "_law_stage", "_law_row", "_law_unit"] ["_law_box", "_law_world_here"] (defScope s_law_moment) := ⟨rfl, rfl, rfl, by decide +kernel, rfl, by decide +kernel, by decide +kernel⟩
theorem fo_law_moment {Y : Wo} (hh : Y.hd) : FoB Y 3 "_law_moment" ["_law_box", "_law_world_here"] F_law_moment := by
  have nd : (["_law_box", "_law_world_here", "_law_turn", "_law_stage", "_law_row", "_law_unit"] : List Str).Nodup := sc_law_moment.nd
  refine mkB (k := 2) (N := ["_law_box", "_law_world_here", "_law_turn", "_law_stage", "_law_row", "_law_unit"]) hh 68 ds_law_moment sc_law_moment (fun _ _ _ _ _ _ us hl => match us, hl with | [_, _], _ => rfl) (by rintro bs ds cs r ⟨o, i, s', rfl, rfl, rfl, rfl, W, hn, hs⟩; rfl) ?_
  rintro cdv A outer s H E bs ds cs r hr ⟨o, i, s', rfl, rfl, rfl, rfl, W, hn, hs⟩
  refine ⟨anys 5, ?_⟩
  have hT := totI_pos W
  have TB : Bd 1700 (totI o i) := W.hT
  have d9 := drI_bd s' (show (0 : Int) < 9 by decide)
  have g := greatI_bd (s := nxI s') hT
  have s2B : BxI (nxIt (nxI s') (lapsI (totI o i))) := nxIt_bd (nxI_bd _) _
  have d9B : Bd 4 (drI s' 9) := (Bd.lit 4 (i := 9) (by decide)).le d9.1 (by omega)
  refine s_seq (s_set (d := .int (drI s' 9)) 2 nd (x_fB 0 (fo_law_draw hh) hr (a_cons x_int a_nil) rfl (.inr rfl) ⟨s', 9, rfl, rfl, rfl, rfl, hs, by decide⟩)) ?_
  refine s_seq (s_set (d := .int (greatI (nxI s') (totI o i))) 3 nd (x_fB 0 (fo_law_great hh) hr (a_cons (x_w2 (x_v 1) x_int) a_nil) rfl (.inr rfl) ⟨nxI s', totI o i, rfl, rfl, rfl, rfl, nxI_bd _, hT, TB⟩)) ?_
  by_cases hc : drI s' 9 < 2
  · have e : mmR o i s' = (nxIt (nxI s') (lapsI (totI o i)), drI s' 9 * (totI o i - 1)) := by unfold mmR; rw [if_pos hc]
    rw [e]
    exact r_take (t_is (t_lt (x_v 2) x_int) (decide_eq_true hc)) (r_ret (x_mul (x_v 2) (x_sub (x_w2 (x_v 1) x_int) x_int) d9B (TB.sub (Bd.lit (i := 1) 1)) (by decide)) ⟨.inr rfl, .inl rfl, .inl rfl, .inl rfl, .inl rfl, .inl rfl, trivial⟩) rfl
  refine r_skip (t_is (t_lt (x_v 2) x_int) (decide_eq_false hc)) ?_
  by_cases h6 : drI s' 9 < 6
  · have e : mmR o i s' = (nxI (nxI (nxIt (nxI s') (lapsI (totI o i)))), max 0 (min (totI o i - 1) (greatI (nxI s') (totI o i) / unW o i (kDr (nxIt (nxI s') (lapsI (totI o i))) (o.length + i.length)) * unW o i (kDr (nxIt (nxI s') (lapsI (totI o i))) (o.length + i.length)) + drI (nxI (nxIt (nxI s') (lapsI (totI o i)))) 5 - 2))) := by unfold mmR; rw [if_neg hc, if_pos h6]
    rw [e]
    generalize nxIt (nxI s') (lapsI (totI o i)) = s2 at *
    obtain ⟨ek, hk⟩ := kDr_bd s2 hn
    generalize kDr s2 (o.length + i.length) = k at *
    have hw := row_ok W hk
    obtain ⟨u0, uB⟩ := unW_ok W hk
    refine r_takeN (ρ1 := [.box (.lst [.int (nxI (nxI s2))]), .val (worldD o i), .any, .val (.int (greatI (nxI s') (totI o i) / unW o i k * unW o i k + drI (nxI s2) 5 - 2)), .any, .any]) (t_is (t_lt (x_v 2) x_int) (decide_eq_true h6)) (s_seq (s_set (d := (rowW o i k).D) 4 nd (x_rowG k (x_v 1) (x_add x_int (x_fB 0 (fo_law_draw hh) hr (a_cons (x_is (x_sub (x_lenW hh.b_len (x_v 1)) x_int) (show D.int (3 + ((o.length + i.length : Nat) : Int) - 3) = D.int ((o.length + i.length : Nat) : Int) by congr 1; omega)) a_nil) rfl (.inr rfl) ⟨s2, ((o.length + i.length : Nat) : Int), rfl, rfl, rfl, rfl, s2B, by omega⟩)) (by rw [ek]) hk)) (s_seq (s_set (d := .int (corOf i).many) 5 nd (x_w1 (x_v 1) x_int)) ?_)) ?_
    · refine r_if (ρ1 := [.box (.lst [.int (nxI s2)]), .val (worldD o i), .any, .val (.int (greatI (nxI s') (totI o i))), .any, .val (.int (unW o i k))]) (t_eq (x_rw 0 (x_v 4) x_int rfl rfl) x_int rfl) (fun h2 => ?_) (fun h2 => ?_) ?_
      · exact s_seq (s_set (d := .int (unW o i k)) 5 nd (x_is (x_rw 1 (x_v 4) x_int rfl rfl) (by unfold unW; rw [ifT h2]))) (s_nil ⟨.inr rfl, .inr rfl, .inl rfl, .inr rfl, .inl rfl, .inr rfl, trivial⟩)
      · exact s_nil ⟨.inr rfl, .inr rfl, .inl rfl, .inr rfl, .inl rfl, .inr (by unfold unW; rw [ifF h2]), trivial⟩
      · refine s_seq (s_set (d := .int (greatI (nxI s') (totI o i) / unW o i k * unW o i k + drI (nxI s2) 5 - 2)) 3 nd (x_sub (x_add (x_mul (x_divS (x_v 3) (x_v 5) u0 (uB.mono (by decide))) (x_v 5) ((TB.le g.1 (Int.le_of_lt g.2)).ediv u0) uB (by decide)) (x_fB 0 (fo_law_draw hh) hr (a_cons x_int a_nil) rfl (.inr rfl) ⟨nxI s2, 5, rfl, rfl, rfl, rfl, nxI_bd _, by decide⟩)) x_int)) ?_
        exact s_nil ⟨.inr rfl, .inr rfl, .inl rfl, .inr rfl, .inl rfl, .inl rfl, trivial⟩
    · exact r_ret (x_max hh.b_max rfl x_int (x_min hh.b_min rfl (x_sub (x_w2 (x_v 1) x_int) x_int) (x_v 3))) ⟨.inr rfl, .inl rfl, .inl rfl, .inl rfl, .inl rfl, .inl rfl, trivial⟩
  · have e : mmR o i s' = (nxIt (nxI s') (lapsI (totI o i)), max 0 (min (totI o i - 1) (greatI (nxI s') (totI o i)))) := by unfold mmR; rw [if_neg hc, if_neg h6]
    rw [e]
    exact r_skip (t_is (t_lt (x_v 2) x_int) (decide_eq_false h6)) (r_ret (x_max hh.b_max rfl x_int (x_min hh.b_min rfl (x_sub (x_w2 (x_v 1) x_int) x_int) (x_v 3))) ⟨.inr rfl, .inl rfl, .inl rfl, .inl rfl, .inl rfl, .inl rfl, trivial⟩)
end Sd

namespace Sd
open PySem PySem.Spec L2
open PyProof.Rows (envOfC)

section
variable {X : Cx} {ρ ρ1 ρ2 : List Sl} {e1 e2 : Expr} {pos p : Pos} {i j : Int}
/-- max, min, where a value is drawn -/
theorem x_maxG (hm : X.mg "max" = none) (hc : X.calm = true) (h1 : PE X e1 (tG ρ ρ1 (.int i))) (h2 : PE X e2 (tG ρ1 ρ2 (.int j))) (hg : Gl X "max" := by rfl) (hs : starEach (e1 :: [e2]) X.env = (false, eval e1 X.env) :: starEach [e2] X.env := by rfl) (hs2 : starEach (e2 :: []) X.env = (false, eval e2 X.env) :: starEach [] X.env := by rfl) (hp : (backTo pos (starEach [e2] X.env)).any (·.1) = false := by rfl) :
    PE X (.Call (.Name "max" p) [e1, e2] [] pos) (tG ρ ρ2 (.int (max i j))) :=
  x_blt (call_max2 hc) (b_2 (f := max) fun i j H Q h => ⟨i, j, rfl, by
    have : (if j > i then j else i) = max i j := by split <;> omega
    rw [this]; exact h⟩) hm (by decide +kernel) (a_cons h1 (a_cons h2 a_nil hs2) hs) hg (by decide) (by decide) hs hp
theorem x_minG (hm : X.mg "min" = none) (hc : X.calm = true) (h1 : PE X e1 (tG ρ ρ1 (.int i))) (h2 : PE X e2 (tG ρ1 ρ2 (.int j))) (hg : Gl X "min" := by rfl) (hs : starEach (e1 :: [e2]) X.env = (false, eval e1 X.env) :: starEach [e2] X.env := by rfl) (hs2 : starEach (e2 :: []) X.env = (false, eval e2 X.env) :: starEach [] X.env := by rfl) (hp : (backTo pos (starEach [e2] X.env)).any (·.1) = false := by rfl) :
    PE X (.Call (.Name "min" p) [e1, e2] [] pos) (tG ρ ρ2 (.int (min i j))) :=
  x_blt (call_min2 hc) (b_2 (f := min) fun i j H Q h => ⟨i, j, rfl, by
    have : (if j < i then j else i) = min i j := by split <;> omega
    rw [this]; exact h⟩) hm (by decide +kernel) (a_cons h1 (a_cons h2 a_nil hs2) hs) hg (by decide) (by decide) hs hp
end
/-! ### a drawn watch -/
/-- the state, the stage behind a look's draws, ahead of its bound -/
def wtR (o i : List Int) (n2 pace s st : Int) : Int × Int :=
  if drI s 8 < 3 then (nxI (nxI s), st + drI s 8)
  else if pace = 1 then (nxI (nxI (nxI s)), st + drI (nxI (nxI s)) 6)
  else if pace = 2 then (nxI (nxI (nxI s)), st + max 0 ((rowW o i (kDr (nxI s) (o.length + i.length))).u + drI (nxI (nxI s)) 3 - 1))
  else if pace = 3 then (nxI (nxIt (nxI (nxI s)) (lapsI (totI o i))), st + greatI (nxI (nxI s)) (totI o i) / (1 + drI (nxIt (nxI (nxI s)) (lapsI (totI o i))) n2))
  else (nxI (nxI s), st)
def wtI (o i : List Int) (n2 pace s st : Int) : Nat → Int × Int
  | 0 => (s, st)
  | j + 1 => ((wtR o i n2 pace (wtI o i n2 pace s st j).1 (wtI o i n2 pace s st j).2).1, min (totI o i - 1) (wtR o i n2 pace (wtI o i n2 pace s st j).1 (wtI o i n2 pace s st j).2).2)
def wtL (o i : List Int) (n2 pace s st : Int) (n : Nat) : List Int := (List.range n).map fun j => (wtI o i n2 pace s st (j + 1)).2
theorem wtL_len {o i : List Int} {n2 pace s st : Int} {n : Nat} : (wtL o i n2 pace s st n).length = n := by simp [wtL]
theorem wtL_get {o i : List Int} {n2 pace s st : Int} {n j : Nat} (h : j < (wtL o i n2 pace s st n).length) : (wtL o i n2 pace s st n)[j] = (wtI o i n2 pace s st (j + 1)).2 := by
  simp [wtL]
theorem wtR_bd {o i : List Int} (W : WOk o i) (hn : 1 ≤ o.length + i.length) {n2 pace s st : Int} (h2 : 0 < n2) (hs : BxI s) (h0 : 0 ≤ st) : BxI (wtR o i n2 pace s st).1 ∧ st ≤ (wtR o i n2 pace s st).2 := by
  have hT := totI_pos W
  have a := drI_bd s (show (0 : Int) < 8 by decide)
  have b := drI_bd (nxI (nxI s)) (show (0 : Int) < 6 by decide)
  unfold wtR
  split
  · exact ⟨nxI_bd _, by dsimp only; omega⟩
  split
  · exact ⟨nxI_bd _, by dsimp only; omega⟩
  split
  · exact ⟨nxI_bd _, by dsimp only; omega⟩
  split
  · refine ⟨nxI_bd _, ?_⟩
    dsimp only
    have g := greatI_bd (s := nxI (nxI s)) hT
    have d := drI_bd (nxIt (nxI (nxI s)) (lapsI (totI o i))) h2
    have := Int.ediv_nonneg g.1 (show 0 ≤ 1 + drI (nxIt (nxI (nxI s)) (lapsI (totI o i))) n2 by omega)
    omega
  · exact ⟨nxI_bd _, Int.le_refl _⟩
theorem wtI_bd {o i : List Int} (W : WOk o i) (hn : 1 ≤ o.length + i.length) {n2 pace s st : Int} (h2 : 0 < n2) (hs : BxI s) (h0 : 0 ≤ st) (h1 : st < totI o i) : ∀ j, BxI (wtI o i n2 pace s st j).1 ∧ 0 ≤ (wtI o i n2 pace s st j).2 ∧ (wtI o i n2 pace s st j).2 < totI o i
  | 0 => ⟨hs, h0, h1⟩
  | j + 1 => by
    obtain ⟨a, b, c⟩ := wtI_bd W hn h2 hs h0 h1 (pace := pace) j
    obtain ⟨d, e⟩ := wtR_bd W hn (pace := pace) h2 a b
    exact ⟨d, by show 0 ≤ min _ _; omega, by show min _ _ < _; omega⟩
theorem wtI_mono {o i : List Int} (W : WOk o i) (hn : 1 ≤ o.length + i.length) {n2 pace s st : Int} (h2 : 0 < n2) (hs : BxI s) (h0 : 0 ≤ st) (h1 : st < totI o i) (j : Nat) : (wtI o i n2 pace s st j).2 ≤ (wtI o i n2 pace s st (j + 1)).2 := by
  obtain ⟨a, b, c⟩ := wtI_bd W hn h2 hs h0 h1 (pace := pace) j
  obtain ⟨d, e⟩ := wtR_bd W hn (pace := pace) h2 a b
  show _ ≤ min _ _
  omega
/-! ### _law_watch -/
def F_law_watch (bs ds cs : List D) (r : D) : Prop := ∃ (o i tour : List Int) (s st : Int), bs = [.int s] ∧ ds = [worldD o i, .tup (dInts tour), .int st] ∧ cs = [.int (wtI o i (2 * tour.length) (drI s 4) (nxI s) st tour.length).1] ∧ r = .lst (dInts (wtL o i (2 * tour.length) (drI s 4) (nxI s) st tour.length)) ∧ WOk o i ∧ 1 ≤ o.length + i.length ∧ BxI s ∧ 0 ≤ st ∧ st < totI o i ∧ 1 ≤ tour.length ∧ tour.length ≤ 1000
theorem sc_law_watch : FnScope ["_law_box", "_law_world_here", "_law_tour", "_law_stage", "_law_moments", "_law_pace", "_law_dial", "_law_turn", "_law_unit"] ["_law_box", "_law_world_here", "_law_tour", "_law_stage"] (defScope s_law_watch) := ⟨rfl, rfl, rfl, by decide +kernel, rfl, by decide +kernel, by decide +kernel⟩
theorem fo_law_watch {Y : Wo} (hh : Y.hd) : FoB Y 3 "_law_watch" ["_law_box", "_law_world_here", "_law_tour", "_law_stage"] F_law_watch := by
  have nd : (["_law_box", "_law_world_here", "_law_tour", "_law_stage", "_law_moments", "_law_pace", "_law_dial", "_law_turn", "_law_unit"] : List Str).Nodup := sc_law_watch.nd
  refine mkB (k := 2) (N := ["_law_box", "_law_world_here", "_law_tour", "_law_stage", "_law_moments", "_law_pace", "_law_dial", "_law_turn", "_law_unit"]) hh 69 ds_law_watch sc_law_watch (fun _ _ _ _ _ _ us hl => match us, hl with | [_, _, _, _], _ => rfl) (by rintro bs ds cs r ⟨o, i, tour, s', st0, rfl, rfl, rfl, rfl, W, hn, hs, h0, h1, t1, t2⟩; rfl) ?_
  rintro cdv A outer s H E bs ds cs r hr ⟨o, i, tour, s', st0, rfl, rfl, rfl, rfl, W, hn, hs, h0, h1, t1, t2⟩
  refine ⟨anys 8, ?_⟩
  have hT := totI_pos W
  have TB : Bd 1700 (totI o i) := W.hT
  have n2 : (0 : Int) < 2 * (tour.length : Int) := by omega
  refine s_seq (s_setN 4 nd (n_lst (ds := []) a_nil (by decide))) ?_
  refine s_seq (s_set (d := .int (drI s' 4)) 5 nd (x_fB 0 (fo_law_draw hh) hr (a_cons x_int a_nil) rfl (.inr rfl) ⟨s', 4, rfl, rfl, rfl, rfl, hs, by decide⟩)) ?_
  generalize hpc : drI s' 4 = pc
  have bd := fun j => wtI_bd W hn (pace := pc) n2 (nxI_bd s') h0 h1 j
  have hln : (wtL o i (2 * tour.length) pc (nxI s') st0 tour.length).length = tour.length := wtL_len
  refine s_seq (s_forN 6 nd (i_tup (x_v 2)) (fun j => [.box (.lst [.int (wtI o i (2 * tour.length) pc (nxI s') st0 j).1]), .val (worldD o i), .val (.tup (dInts tour)), .val (.int (wtI o i (2 * tour.length) pc (nxI s') st0 j).2), .own (.lst (dInts ((wtL o i (2 * tour.length) pc (nxI s') st0 tour.length).take j))), .val (.int pc), .any, .any, .any]) ⟨.inr rfl, .inr rfl, .inr rfl, .inr rfl, .inr rfl, .inr rfl, .inl rfl, .inl rfl, .inl rfl, trivial⟩ (fun j d hj => ?_)) ?_
  · obtain ⟨hl, rfl⟩ := dInts_get hj
    obtain ⟨b1, b2, b3⟩ := bd j
    have e1 : wtI o i (2 * tour.length) pc (nxI s') st0 (j + 1) = ((wtR o i (2 * tour.length) pc (wtI o i (2 * tour.length) pc (nxI s') st0 j).1 (wtI o i (2 * tour.length) pc (nxI s') st0 j).2).1, min (totI o i - 1) (wtR o i (2 * tour.length) pc (wtI o i (2 * tour.length) pc (nxI s') st0 j).1 (wtI o i (2 * tour.length) pc (nxI s') st0 j).2).2) := rfl
    have e2 : (wtL o i (2 * tour.length) pc (nxI s') st0 tour.length)[j]'(by omega) = min (totI o i - 1) (wtR o i (2 * tour.length) pc (wtI o i (2 * tour.length) pc (nxI s') st0 j).1 (wtI o i (2 * tour.length) pc (nxI s') st0 j).2).2 := by rw [wtL_get, e1]
    rw [show dInts ((wtL o i (2 * tour.length) pc (nxI s') st0 tour.length).take (j + 1)) = dInts ((wtL o i (2 * tour.length) pc (nxI s') st0 tour.length).take j) ++ [.int ((wtL o i (2 * tour.length) pc (nxI s') st0 tour.length)[j]'(by omega))] from take_seen (by omega), e1, e2]
    have hlt : (dInts ((wtL o i (2 * tour.length) pc (nxI s') st0 tour.length).take j)).length < 100000 := by rw [dInts_len, List.length_take]; omega
    generalize dInts ((wtL o i (2 * tour.length) pc (nxI s') st0 tour.length).take j) = L at *
    generalize (wtI o i (2 * tour.length) pc (nxI s') st0 j).1 = s at *
    generalize (wtI o i (2 * tour.length) pc (nxI s') st0 j).2 = st at *
    have d8 := drI_bd s (show (0 : Int) < 8 by decide)
    obtain ⟨ek, hk⟩ := kDr_bd (nxI s) hn
    have hw := row_ok W hk
    refine s_seq (s_set (d := .int (drI s 8)) 7 nd (x_fB 0 (fo_law_draw hh) hr (a_cons x_int a_nil) rfl (.inr rfl) ⟨s, 8, rfl, rfl, rfl, rfl, b1, by decide⟩)) ?_
    refine s_seq (s_set (d := .int (rowW o i (kDr (nxI s) (o.length + i.length))).u) 8 nd (x_rw 1 (x_rowG (kDr (nxI s) (o.length + i.length)) (x_v 1) (x_add x_int (x_fB 0 (fo_law_draw hh) hr (a_cons (x_is (x_sub (x_lenW hh.b_len (x_v 1)) x_int) (show D.int (3 + ((o.length + i.length : Nat) : Int) - 3) = D.int ((o.length + i.length : Nat) : Int) by congr 1; omega)) a_nil) rfl (.inr rfl) ⟨nxI s, ((o.length + i.length : Nat) : Int), rfl, rfl, rfl, rfl, nxI_bd _, by omega⟩)) (by rw [ek]) hk) x_int rfl rfl)) ?_
    refine s_seq (ρ1 := [.box (.lst [.int (wtR o i (2 * tour.length) pc s st).1]), .val (worldD o i), .val (.tup (dInts tour)), .val (.int (wtR o i (2 * tour.length) pc s st).2), .own (.lst L), .val (.int pc), .any, .any, .any]) ?_ ?_
    · by_cases c1 : drI s 8 < 3
      · have e : wtR o i (2 * tour.length) pc s st = (nxI (nxI s), st + drI s 8) := by unfold wtR; rw [if_pos c1]
        rw [e]
        exact s_ifT (t_is (t_lt (x_v 7) x_int) (decide_eq_true c1)) (s_seq (s_set 3 nd (x_add (x_v 3) (x_v 7))) (s_nil ⟨.inr rfl, .inr rfl, .inr rfl, .inr rfl, .inr rfl, .inr rfl, .inl rfl, .inl rfl, .inl rfl, trivial⟩)) pss_never
      refine s_ifF (t_is (t_lt (x_v 7) x_int) (decide_eq_false c1)) pss_never (s_one ?_)
      by_cases c2 : pc = 1
      · have e : wtR o i (2 * tour.length) pc s st = (nxI (nxI (nxI s)), st + drI (nxI (nxI s)) 6) := by unfold wtR; rw [if_neg c1, if_pos c2]
        rw [e]
        exact s_ifT (t_is (t_eq (x_v 5) x_int rfl) (decide_eq_true c2)) (s_seq (s_set (d := .int (st + drI (nxI (nxI s)) 6)) 3 nd (x_add (x_v 3) (x_fB 0 (fo_law_draw hh) hr (a_cons x_int a_nil) rfl (.inr rfl) ⟨nxI (nxI s), 6, rfl, rfl, rfl, rfl, nxI_bd _, by decide⟩))) (s_nil ⟨.inr rfl, .inr rfl, .inr rfl, .inr rfl, .inr rfl, .inr rfl, .inl rfl, .inl rfl, .inl rfl, trivial⟩)) pss_never
      refine s_ifF (t_is (t_eq (x_v 5) x_int rfl) (decide_eq_false c2)) pss_never (s_one ?_)
      by_cases c3 : pc = 2
      · have e : wtR o i (2 * tour.length) pc s st = (nxI (nxI (nxI s)), st + max 0 ((rowW o i (kDr (nxI s) (o.length + i.length))).u + drI (nxI (nxI s)) 3 - 1)) := by unfold wtR; rw [if_neg c1, if_neg c2, if_pos c3]
        rw [e]
        exact s_ifT (t_is (t_eq (x_v 5) x_int rfl) (decide_eq_true c3)) (s_seq (s_set (d := .int (st + max 0 ((rowW o i (kDr (nxI s) (o.length + i.length))).u + drI (nxI (nxI s)) 3 - 1))) 3 nd (x_add (x_v 3) (x_maxG hh.b_max rfl x_int (x_sub (x_add (x_v 8) (x_fB 0 (fo_law_draw hh) hr (a_cons x_int a_nil) rfl (.inr rfl) ⟨nxI (nxI s), 3, rfl, rfl, rfl, rfl, nxI_bd _, by decide⟩)) x_int)))) (s_nil ⟨.inr rfl, .inr rfl, .inr rfl, .inr rfl, .inr rfl, .inr rfl, .inl rfl, .inl rfl, .inl rfl, trivial⟩)) pss_never
      refine s_ifF (t_is (t_eq (x_v 5) x_int rfl) (decide_eq_false c3)) pss_never (s_one ?_)
      by_cases c4 : pc = 3
      · have e : wtR o i (2 * tour.length) pc s st = (nxI (nxIt (nxI (nxI s)) (lapsI (totI o i))), st + greatI (nxI (nxI s)) (totI o i) / (1 + drI (nxIt (nxI (nxI s)) (lapsI (totI o i))) (2 * tour.length))) := by unfold wtR; rw [if_neg c1, if_neg c2, if_neg c3, if_pos c4]
        rw [e]
        have d2 := drI_bd (nxIt (nxI (nxI s)) (lapsI (totI o i))) n2
        have d2B : Bd 100 (1 + drI (nxIt (nxI (nxI s)) (lapsI (totI o i))) (2 * tour.length)) := (Bd.lit 100 (i := 3000) (by decide)).le (by omega) (by omega)
        exact s_ifT (t_is (t_eq (x_v 5) x_int rfl) (decide_eq_true c4)) (s_seq (s_set (d := .int (st + greatI (nxI (nxI s)) (totI o i) / (1 + drI (nxIt (nxI (nxI s)) (lapsI (totI o i))) (2 * tour.length)))) 3 nd (x_add (x_v 3) (x_div (x_fB 0 (fo_law_great hh) hr (a_cons (x_w2 (x_v 1) x_int) a_nil) rfl (.inr rfl) ⟨nxI (nxI s), totI o i, rfl, rfl, rfl, rfl, nxI_bd _, hT, TB⟩) (x_add x_int (x_fB 0 (fo_law_draw hh) hr (a_cons (x_mul x_int (x_lenI hh.b_len (x_v 2)) (Bd.lit (i := 2) 2) (show Bd 100 (tour.length : Int) from (Bd.lit 100 (i := 1000) (by decide)).le (by omega) (by omega)) (by decide)) a_nil) rfl (.inr rfl) ⟨nxIt (nxI (nxI s)) (lapsI (totI o i)), 2 * tour.length, rfl, rfl, rfl, rfl, nxIt_bd (nxI_bd _) _, n2⟩)) (by omega) d2B (by decide)))) (s_nil ⟨.inr rfl, .inr rfl, .inr rfl, .inr rfl, .inr rfl, .inr rfl, .inl rfl, .inl rfl, .inl rfl, trivial⟩)) pss_never
      · have e : wtR o i (2 * tour.length) pc s st = (nxI (nxI s), st) := by unfold wtR; rw [if_neg c1, if_neg c2, if_neg c3, if_neg c4]
        rw [e]
        exact s_ifF (t_is (t_eq (x_v 5) x_int rfl) (decide_eq_false c4)) pss_never (s_nil ⟨.inr rfl, .inr rfl, .inr rfl, .inr rfl, .inr rfl, .inr rfl, .inl rfl, .inl rfl, .inl rfl, trivial⟩)
    · refine s_seq (s_set (d := .int (min (totI o i - 1) (wtR o i (2 * tour.length) pc s st).2)) 3 nd (x_min hh.b_min rfl (x_sub (x_w2 (x_v 1) x_int) x_int) (x_v 3))) ?_
      refine s_seq (s_app 4 (x_v 3) rfl (.inl rfl) hlt) ?_
      exact s_nil ⟨.inr rfl, .inr rfl, .inr rfl, .inr rfl, .inr rfl, .inr rfl, .inl rfl, .inl rfl, .inl rfl, trivial⟩
  · rw [dInts_len, show (wtL o i (2 * tour.length) pc (nxI s') st0 tour.length).take tour.length = wtL o i (2 * tour.length) pc (nxI s') st0 tour.length from List.take_of_length_le (by omega)]
    refine s_freeze 4 (ds := dInts (wtL o i (2 * tour.length) pc (nxI s') st0 tour.length)) ?_
    exact r_ret (x_v 4) ⟨.inr rfl, .inl rfl, .inl rfl, .inl rfl, .inl rfl, .inl rfl, .inl rfl, .inl rfl, .inl rfl, trivial⟩
end Sd

namespace Sd
open PySem
/-! ### a row, its stage -/
def rowL (o i : List Int) (st : Int) : List Int := (List.range (o.length + i.length)).map fun d => showsI o i d st
theorem rowL_len {o i : List Int} {st : Int} : (rowL o i st).length = o.length + i.length := by simp [rowL]
theorem rowL_get? {o i : List Int} {st : Int} {d : Nat} (h : d < o.length + i.length) : (rowL o i st)[d]? = some (showsI o i d st) := by unfold rowL; rw [List.getElem?_map, List.getElem?_range h]; rfl
theorem rowL_get {o i : List Int} {st : Int} {d : Nat} (h : d < (rowL o i st).length) : (rowL o i st)[d] = showsI o i d st := (List.getElem?_eq_some_iff.mp (rowL_get? (by rw [rowL_len] at h; exact h))).2
theorem rowL_ok {o i : List Int} (ho : SzB o) (hi : SzB i) (st : Int) : RowOk (o ++ i) (rowL o i st) := by
  refine ⟨by rw [rowL_len, List.length_append], fun d h1 h2 => ?_⟩
  rw [rowL_get h2, ← getD_get h1]
  exact showsI_bd ho hi (by rw [rowL_len] at h2; exact h2) st
theorem cpl_row {o i : List Int} (ho : SzB o) (hi : SzB i) {st : Int} (h0 : 0 ≤ st) (h1 : st < totI o i) : ∀ j, j ≤ o.length → cplAt o (rowL o i st) j = st / (corOf i).many / pr (o.drop j)
  | 0, _ => by
    have hM := Cor.many_pos (corOf_ok hi)
    have q0 : 0 ≤ st / (corOf i).many := Int.ediv_nonneg h0 (by omega)
    have q1 : st / (corOf i).many < pr o := by rw [Int.ediv_lt_iff_lt_mul hM, Int.mul_comm]; exact h1
    show (0 : Int) = _
    rw [List.drop_zero, Int.ediv_eq_zero_of_lt q0 q1]
  | j + 1, h => by
    have hM := Cor.many_pos (corOf_ok hi)
    have hj : j < o.length := by omega
    have eg := getD_get hj
    have s2 := (ho.get hj).1
    have pp := (ho.drop (j + 1)).pos
    rw [cplAt_s hj (by rw [rowL_len]; omega), cpl_row ho hi h0 h1 j (by omega), rowL_get]
    have er : showsI o i j st = (st / (corOf i).many / pr (o.drop (j + 1)) - st / (corOf i).many / pr (o.drop (j + 1)) / o[j]) % o[j] := by
      unfold showsI showsW
      have e : rowW o i j = ⟨2, spanI o (corOf i).many j, o.getD j 0, (o.getD j 0 - 1) * pr (o.take j)⟩ := by unfold rowW; rw [if_pos hj]
      have hs := spanI_pos ho hM j
      rw [e, if_pos rfl]
      show (st / spanI o (corOf i).many j - st / (spanI o (corOf i).many j * o.getD j 0)) % o.getD j 0 = _
      rw [eg, ← Int.ediv_ediv_of_nonneg (show 0 ≤ spanI o (corOf i).many j by omega)]
      unfold spanI
      rw [← Int.ediv_ediv_of_nonneg (show 0 ≤ (corOf i).many by omega)]
    have e2 : st / (corOf i).many / pr (o.drop j) = st / (corOf i).many / pr (o.drop (j + 1)) / o[j] := by
      rw [pr_drop hj, Int.mul_comm o[j], Int.ediv_ediv_of_nonneg (x := st / (corOf i).many) (y := pr (o.drop (j + 1))) (by omega)]
    rw [er, e2]
    generalize st / (corOf i).many / pr (o.drop (j + 1)) = q
    unfold cplS
    rw [Int.emod_add_emod, Int.sub_add_cancel, Int.mul_comm]
    exact Int.mul_ediv_add_emod q o[j]
theorem cpl_eq {o i : List Int} (ho : SzB o) (hi : SzB i) {st : Int} (h0 : 0 ≤ st) (h1 : st < totI o i) : cpl o (rowL o i st) = st / (corOf i).many := by
  unfold cpl
  rw [cpl_row ho hi h0 h1 _ (Nat.le_refl _), List.drop_length]
  show _ / 1 = _
  rw [Int.ediv_one]
theorem back_eq2 {o i : List Int} (hi : SzB i) {st : Int} (h0 : 0 ≤ st) : backL ((rowL o i st).drop o.length) (coreMoved i) i (st / (corOf i).many) = (corOf i).vals (st % (corOf i).many) (kOf i (st % (corOf i).many)) := by
  have hM := Cor.many_pos (corOf_ok hi)
  obtain ⟨e, r0, r1⟩ := lap_rest st hM
  have lv : ((corOf i).vals (st % (corOf i).many) (kOf i (st % (corOf i).many))).length = i.length := by rw [Cor.vals_len, corOf_sizes]
  apply List.ext_getElem?
  intro p
  by_cases hp : p < i.length
  · unfold backL
    rw [List.getElem?_map, List.getElem?_range hp]
    have hv := cor_vals (o := o) hi r0 r1 hp
    rw [getD_get (by omega)] at hv
    rw [List.getElem?_eq_getElem (by omega), hv]
    show some (((((rowL o i st).drop o.length).getD p 0) - st / (corOf i).many * (coreMoved i).getD p 0) % i.getD p 0) = _
    have I := row_in (o := o) hi (k := o.length + p) (by omega) (by omega)
    have er : ((rowL o i st).drop o.length).getD p 0 = showsI o i (o.length + p) st := by
      rw [List.getD_eq_getElem?_getD, List.getElem?_drop, rowL_get? (by omega)]; rfl
    have es : showsI o i (o.length + p) st = showsW (halfI i) (corOf i).many (rowW o i (o.length + p)) st := rfl
    rw [er, es, moved_e (o := o) hi hp, shows_in I, ← rowW_s (o := o) (p := p)]
    have wb := waveI_bd (x := cWv (halfI i) (rowW o i (o.length + p)) (st % (corOf i).many)) I.s0
    rw [Int.emod_sub_emod, Int.add_sub_cancel, Int.emod_eq_of_lt wb.1 wb.2]
  · rw [List.getElem?_eq_none (by simp [backL]; omega), List.getElem?_eq_none (by omega)]
theorem cof_counted {ss : List Int} (h2 : ∀ n ∈ ss, 2 ≤ n) {c : Int} (c0 : 0 ≤ c) (c1 : c < pr ss) : ∀ j, j ≤ ss.length → cofAt ss (counted ss c) j = c / pr (ss.drop j)
  | 0, _ => by
    show (0 : Int) = _
    rw [List.drop_zero, Int.ediv_eq_zero_of_lt c0 c1]
  | j + 1, h => by
    have hj : j < ss.length := by omega
    have s2 := h2 ss[j] (List.getElem_mem hj)
    have pp : 0 < pr (ss.drop (j + 1)) := pr_pos fun n hn => h2 n (List.mem_of_mem_drop hn)
    have hv : j < (counted ss c).length := by rw [counted_len]; exact hj
    have ev : (counted ss c)[j] = waveI (c / pr (ss.drop (j + 1))) ss[j] := (List.getElem?_eq_some_iff.mp (counted_at h2 hj c)).2
    have e2 : c / pr (ss.drop j) = c / pr (ss.drop (j + 1)) / ss[j] := by rw [pr_drop hj, Int.mul_comm, Int.ediv_ediv_of_nonneg (by omega)]
    rw [cofAt_s hj hv, cof_counted h2 c0 c1 j (by omega), ev, e2]
    generalize c / pr (ss.drop (j + 1)) = q
    rw [← dig_wave (by omega)]
    obtain ⟨e, r0, r1⟩ := lap_rest q (show 0 < ss[j] by omega)
    unfold cofS dig
    by_cases hz : q / ss[j] % 2 = 0
    · rw [if_pos hz, if_pos hz]; omega
    · rw [if_neg hz, if_neg hz]; omega
theorem cof_eq {ss : List Int} (h2 : ∀ n ∈ ss, 2 ≤ n) {c : Int} (c0 : 0 ≤ c) (c1 : c < pr ss) : cof ss (counted ss c) = c := by
  unfold cof
  rw [cof_counted h2 c0 c1 _ (Nat.le_refl _), List.drop_length]
  show _ / 1 = _
  rw [Int.ediv_one]
theorem place_eq {i : List Int} (hi : SzB i) {st : Int} (h0 : 0 ≤ st) (h1 : st < (corOf i).many) : F_d_core_place [.tup (dInts (corOf i).sizes), (corOf i).hD, .tup (dInts ((corOf i).vals st (kOf i st)))] (.ok (.int st)) := by
  have hc := corOf_ok hi
  have hv := Cor.vals_row hc (k := kOf i st) h0 h1
  have hl := kOf_cor hi h0 h1
  have hms := hc.ms
  refine ⟨corOf i, _, st, rfl, rfl, hc, hv, fun e => ?_, fun s e => ?_, fun m e => ?_⟩
  · rw [e] at h1
    have h1 : st < 1 := h1
    omega
  · rw [e]; rfl
  · have L := hl m e
    obtain ⟨hm, _⟩ := hms m e
    rw [e] at h1 ⊢
    have h1 : st < m.L + m.R - 1 := h1
    obtain ⟨k0, k1, k2, k3⟩ := L
    have rr := left_right hm (by omega) ⟨k0, k1, k2, k3⟩
    have e1 : ((Cor.msh m).vals st (kOf i st)).take m.l.length = counted m.l (kOf i st) := by
      show (counted m.l (kOf i st) ++ (counted m.r (st - kOf i st)).reverse).take m.l.length = _
      rw [List.take_append_of_le_length (by rw [counted_len]; exact Nat.le_refl _), List.take_of_length_le (by rw [counted_len]; exact Nat.le_refl _)]
    have e2 : (((Cor.msh m).vals st (kOf i st)).drop m.l.length).reverse = counted m.r (st - kOf i st) := by
      show ((counted m.l (kOf i st) ++ (counted m.r (st - kOf i st)).reverse).drop m.l.length).reverse = _
      rw [List.drop_left' counted_len, List.reverse_reverse]
    rw [e1, e2, cof_eq hm.zl.two k0 (by show _ < m.L; omega), cof_eq hm.zr.two rr.1 (by show _ < m.R; have := rr.2.1; omega)]
    exact ⟨by omega, k0, k1, k2, k3⟩
end Sd

namespace Sd
open PySem PySem.Spec L2
open PyProof.Rows (envOfC)

/-! ### the row of a stage, the stage of a row -/
theorem same_row {o i : List Int} {st : Int} (N : NOk o i) : sameOk (.tup (dInts (rowL o i st))) := by
  have l1 := N.zo.len
  have l2 := N.zi.len
  exact same_ints (by rw [rowL_len]; omega)
/-! ### _law_rows -/
def F_law_rows (ds : List D) (r : Res) : Prop := ∃ (o i : List Int) (st : Int), ds = [nestD o i, worldD o i, .int st] ∧ r = .ok (.bl true) ∧ NOk o i ∧ 0 ≤ st ∧ st < totI o i
theorem sc_law_rows : FnScope ["_law_nest_here", "_law_world_here", "_law_stage", "_law_row", "_law_dial"] ["_law_nest_here", "_law_world_here", "_law_stage"] (defScope s_law_rows) := ⟨rfl, rfl, rfl, by decide +kernel, rfl, by decide +kernel, by decide +kernel⟩
theorem fo_law_rows {Y : Wo} (hh : Y.hd) : Fo Y 7 "_law_rows" ["_law_nest_here", "_law_world_here", "_law_stage"] F_law_rows := by
  have nd : (["_law_nest_here", "_law_world_here", "_law_stage", "_law_row", "_law_dial"] : List Str).Nodup := sc_law_rows.nd
  refine mkF (k := 6) (N := ["_law_nest_here", "_law_world_here", "_law_stage", "_law_row", "_law_dial"]) hh 70 ds_law_rows sc_law_rows (fun _ _ _ _ _ _ us hl => match us, hl with | [_, _, _], _ => rfl) (by rintro ds r ⟨o, i, st, rfl, rfl, N, h0, h1⟩; rfl) ?_
  rintro cdv A outer s H E ds r hr ⟨o, i, st, rfl, rfl, N, h0, h1⟩
  have l1 := N.zo.len
  have l2 := N.zi.len
  have W := W_of N
  have hM := N.pos
  have sB : Bd 1700 st := W.hT.le h0 (Int.le_of_lt h1)
  obtain ⟨e, r0, r1⟩ := lap_rest st hM
  refine s_seq (s_set (d := .tup (dInts (rowL o i st))) 3 nd (x_tupL hh.b_tuple (x_is (x_lcN (ys := rngD 0 1 (((o.length + i.length : Nat) : Int)).toNat) 4 (fun d => .int (showsI o i d st)) nd (i_rng1 hh.b_range (x_is (x_sub (x_lenW hh.b_len (x_v 1)) x_int) (show D.int (3 + ((o.length + i.length : Nat) : Int) - 3) = D.int ((o.length + i.length : Nat) : Int) by congr 1; omega)) (by omega) (by omega)) (by rw [rngD_len]; omega) ?_) ?_))) ?_
  · intro s H C cl fp j d hj
    obtain ⟨hl, rfl⟩ := rngD_get hj
    rw [show (0 : Int) + (j : Int) * 1 = (j : Int) by omega]
    exact x_f (fo_law_shows hh) hr (a_cons (x_v 1) (a_cons (x_v 4) (a_cons (x_v 2) a_nil))) ⟨o, i, j, st, rfl, rfl, W, by omega, h0, sB⟩
  · rw [rngD_len, Int.toNat_natCast, lc_ints]; rfl
  have ev := nest_vals N.zo N.zi h0
  have ec := cpl_eq N.zo N.zi h0 h1
  refine r_ret (x_andT (x_f (fo_law_same hh) hr (a_cons (x_is (x_f (fo_row_at hh) hr (a_cons (x_v 0) (a_cons (x_v 2) a_nil)) ⟨o, i, st, kOf i (st % (corOf i).many), rfl, rfl, N, h0, h1, kOf_cor N.zi r0 r1⟩) (show _ = D.tup (dInts (rowL o i st)) by rw [ev]; rfl)) (a_cons (x_v 3) a_nil)) ⟨_, rfl, rfl, same_row N⟩) (x_one (x_f (fo_law_same hh) hr (a_cons (x_is (x_f (fo_stage_by hh) hr (a_cons (x_v 0) (a_cons (x_v 3) a_nil)) ⟨o, i, rowL o i st, st % (corOf i).many, rfl, rfl, N, rowL_ok N.zo N.zi st, ?_⟩) (show _ = D.int st by rw [ec, ← e])) (a_cons (x_v 2) a_nil)) ⟨_, rfl, rfl, (rfl : sclD (.int st) = true)⟩))) sa
  rw [ec, back_eq2 N.zi h0]
  exact place_eq N.zi r0 r1
end Sd

namespace Sd
open PySem PySem.Spec L2
open PyProof.Rows (envOfC)

section
variable {X : Cx} {ρ ρ2 : List Sl} {e e1 e2 : Expr} {rest : List Expr} {pos : Pos} {c : Bool}
/-- a and b, where b draws -/
theorem w_andG (h1 : PT X e1 (tT ρ true)) (h2 : PW X (.BoolOp .And (e2 :: rest) pos) (tTG ρ ρ2 c)) : PW X (.BoolOp .And (e1 :: e2 :: rest) pos) (tTG ρ ρ2 c) :=
  pw_imp (pw_and h1 h2) fun σ H Q ⟨B, M0, b, P, S, k⟩ => ⟨B, M0, b, P, S, fun H1 S1 => iteT ⟨B, M0, b, P, S1, k⟩⟩
theorem w_andF {u : TT} (h1 : PT X e1 (tT ρ false)) (h2 : PW X (.BoolOp .And (e2 :: rest) pos) u) : PW X (.BoolOp .And (e1 :: e2 :: rest) pos) (tT ρ false) :=
  pw_imp (pw_and h1 h2) fun σ H Q ⟨B, M0, b, P, S, k⟩ => ⟨B, M0, b, P, S, fun H1 S1 => iteF (k H1 S1)⟩
theorem w_and1G (h : PT X e (tTG ρ ρ2 c)) : PW X (.BoolOp .And [e] pos) (tTG ρ ρ2 c) := pw_and1 h
theorem t_WG (h : PW X e (tTG ρ ρ2 c)) : PT X e (tTG ρ ρ2 c) := h.pt
theorem pw_nevr : PW X e (fun _ _ _ => False) := ⟨fun _ _ _ _ _ _ _ h => h.elim⟩
end
def ifT' : Stmt → Expr
  | .If e _ _ _ => e
  | _ => .Constant .none 0 ⟨0, 0, 0, 0⟩
/-! ### a view that is bent at one place -/
/-- the place, the state behind its draws -/
def bnP (o i : List Int) (n : Nat) (s : Int) : Nat × Int :=
  if i = [] then (kDr s n, nxI s)
  else if drI (nxI s) 2 = 1 then (o.length + kDr (nxI (nxI s)) i.length, nxI (nxI (nxI s)))
  else (kDr s n, nxI (nxI s))
def bnK (o i : List Int) (s : Int) : Nat := ((tourI o.length i.length).getD (bnP o i (vN o i) s).1 0).toNat
def bnZ (o i : List Int) (s : Int) : Int := (rowW o i (bnK o i s)).s
def bnO (o i view : List Int) (s : Int) : Int := (view.getD (bnP o i (vN o i) s).1 0 + 1 + greatI (bnP o i (vN o i) s).2 (bnZ o i s - 1)) % bnZ o i s
def bnV (o i view : List Int) (s : Int) : List Int := view.take (bnP o i (vN o i) s).1 ++ [bnO o i view s] ++ view.drop ((bnP o i (vN o i) s).1 + 1)
def bnS (o i : List Int) (s : Int) : Int := nxIt (bnP o i (vN o i) s).2 (lapsI (bnZ o i s - 1))
theorem bnP_bd {o i : List Int} (N : NOk o i) {s : Int} (hs : BxI s) : (bnP o i (vN o i) s).1 < vN o i ∧ BxI (bnP o i (vN o i) s).2 := by
  have hp := vN_pos N
  have tl : vN o i = 2 * o.length + i.length := tourI_len _ _
  have a := (kDr_bd s hp).2
  unfold bnP
  split
  · exact ⟨a, nxI_bd _⟩
  · rename_i hi
    have hl := List.length_pos_iff.mpr hi
    split
    · have := (kDr_bd (nxI (nxI s)) (n := i.length) hl).2
      exact ⟨by dsimp only; omega, nxI_bd _⟩
    · exact ⟨a, nxI_bd _⟩
theorem bnK_ok {o i : List Int} (N : NOk o i) {s : Int} (hs : BxI s) : ∃ h : (bnP o i (vN o i) s).1 < (tourI o.length i.length).length, (tourI o.length i.length)[(bnP o i (vN o i) s).1] = (bnK o i s : Int) ∧ bnK o i s < o.length + i.length := by
  have h := (bnP_bd N hs).1
  obtain ⟨k, a, b⟩ := tourI_get h
  have e : bnK o i s = k := by unfold bnK; rw [getD_get h, a, Int.toNat_natCast]
  exact ⟨h, by rw [e]; exact a, by rw [e]; exact b⟩
theorem bnZ_ok {o i : List Int} (N : NOk o i) {s : Int} (hs : BxI s) : 2 ≤ bnZ o i s ∧ Bd 41 (bnZ o i s) ∧ bnZ o i s = (o ++ i).getD (bnK o i s) 0 := by
  obtain ⟨_, _, hk⟩ := bnK_ok N hs
  have hw := row_ok (W_of N) hk
  exact ⟨hw.s2, hw.sB, row_sz hk⟩
theorem picks_at {o i : List Int} {j k : Nat} (h : j < (tourI o.length i.length).length) (hk : (tourI o.length i.length)[j] = (k : Int)) : ∃ h' : j < (picks (o ++ i) (tourI o.length i.length)).length, (picks (o ++ i) (tourI o.length i.length))[j] = (o ++ i).getD k 0 := by
  have h' : j < (picks (o ++ i) (tourI o.length i.length)).length := by rw [picks_len]; exact h
  refine ⟨h', ?_⟩
  have q : (picks (o ++ i) (tourI o.length i.length))[j]? = some ((o ++ i).getD k 0) := by
    unfold picks
    rw [List.getElem?_map, List.getElem?_eq_getElem h, hk]; rfl
  exact (List.getElem?_eq_some_iff.mp q).2
theorem bnV_ok {o i view : List Int} (N : NOk o i) {s : Int} (hs : BxI s) (hv : viewOk o i view) : viewOk o i (bnV o i view s) := by
  obtain ⟨hp, ek, hk⟩ := bnK_ok N hs
  obtain ⟨z2, zB, ze⟩ := bnZ_ok N hs
  have vl := hv.1
  have l1 : (view.take (bnP o i (vN o i) s).1).length = (bnP o i (vN o i) s).1 := by rw [List.length_take]; omega
  have hl : (bnV o i view s).length = view.length := by
    unfold bnV
    rw [List.length_append, List.length_append, l1, List.length_drop]
    simp only [List.length_singleton]; omega
  have o0 := Int.emod_nonneg (view.getD (bnP o i (vN o i) s).1 0 + 1 + greatI (bnP o i (vN o i) s).2 (bnZ o i s - 1)) (show bnZ o i s ≠ 0 by omega)
  have o1 := Int.emod_lt_of_pos (view.getD (bnP o i (vN o i) s).1 0 + 1 + greatI (bnP o i (vN o i) s).2 (bnZ o i s - 1)) (show 0 < bnZ o i s by omega)
  refine ⟨by rw [hl]; exact vl, fun j h1 h2 => ?_⟩
  by_cases e : j = (bnP o i (vN o i) s).1
  · subst e
    have q : (bnV o i view s)[(bnP o i (vN o i) s).1]? = some (bnO o i view s) := by
      unfold bnV
      rw [List.append_assoc, List.getElem?_append_right (by omega), l1, Nat.sub_self]; rfl
    rw [(List.getElem?_eq_some_iff.mp q).2]
    obtain ⟨_, pe⟩ := picks_at hp ek
    rw [pe, ← ze]
    exact ⟨o0, o1⟩
  · have h2' : j < view.length := by omega
    have q : (bnV o i view s)[j]? = some view[j] := by
      unfold bnV
      by_cases lt : j < (bnP o i (vN o i) s).1
      · rw [List.append_assoc, List.getElem?_append_left (by omega), List.getElem?_take_of_lt lt, List.getElem?_eq_getElem h2']
      · rw [List.getElem?_append_right (by rw [List.length_append, l1]; simp only [List.length_singleton]; omega), List.length_append, l1, List.getElem?_drop]
        simp only [List.length_singleton]
        rw [show (bnP o i (vN o i) s).1 + 1 + (j - ((bnP o i (vN o i) s).1 + 1)) = j by omega, List.getElem?_eq_getElem h2']
    rw [(List.getElem?_eq_some_iff.mp q).2]
    exact hv.2 j h1 h2'
/-! ### _law_bent -/
def F_law_bent (bs ds cs : List D) (r : D) : Prop := ∃ (o i view : List Int) (s : Int), bs = [.int s] ∧ ds = [nestD o i, worldD o i, .tup (dInts (tourI o.length i.length)), .tup (dInts view)] ∧ cs = [.int (bnS o i s)] ∧ r = .tup (dInts (bnV o i view s)) ∧ NOk o i ∧ viewOk o i view ∧ BxI s
theorem sc_law_bent : FnScope ["_law_box", "_law_nest_here", "_law_world_here", "_law_tour", "_law_view", "_law_place", "_law_size", "_law_other"] ["_law_box", "_law_nest_here", "_law_world_here", "_law_tour", "_law_view"] (defScope s_law_bent) := ⟨rfl, rfl, rfl, by decide +kernel, rfl, by decide +kernel, by decide +kernel⟩
theorem fo_law_bent {Y : Wo} (hh : Y.hd) : FoB Y 3 "_law_bent" ["_law_box", "_law_nest_here", "_law_world_here", "_law_tour", "_law_view"] F_law_bent := by
  have nd : (["_law_box", "_law_nest_here", "_law_world_here", "_law_tour", "_law_view", "_law_place", "_law_size", "_law_other"] : List Str).Nodup := sc_law_bent.nd
  refine mkB (k := 2) (N := ["_law_box", "_law_nest_here", "_law_world_here", "_law_tour", "_law_view", "_law_place", "_law_size", "_law_other"]) hh 71 ds_law_bent sc_law_bent (fun _ _ _ _ _ _ us hl => match us, hl with | [_, _, _, _, _], _ => rfl) (by rintro bs ds cs r ⟨o, i, view, s', rfl, rfl, rfl, rfl, N, hv, hs⟩; rfl) ?_
  rintro cdv A outer s H E bs ds cs r hr ⟨o, i, view, s', rfl, rfl, rfl, rfl, N, hv, hs⟩
  refine ⟨anys 7, ?_⟩
  have W := W_of N
  have l1 := N.zo.len
  have l2 := N.zi.len
  have hp := vN_pos N
  have tl : vN o i = 2 * o.length + i.length := tourI_len _ _
  have vl := viewOk_len hv
  obtain ⟨ea, ha⟩ := kDr_bd s' hp
  obtain ⟨hb, ek, hk⟩ := bnK_ok N hs
  obtain ⟨z2, zB, ze⟩ := bnZ_ok N hs
  have pb := (bnP_bd N hs).2
  have hb' : (bnP o i (vN o i) s').1 < view.length := by
    have : (bnP o i (vN o i) s').1 < vN o i := hb
    omega
  refine s_seq (s_set (d := .int ((kDr s' (vN o i) : Nat) : Int)) 5 nd (x_is' (x_fB 0 (fo_law_draw hh) hr (a_cons (x_lenI hh.b_len (x_v 3)) a_nil) rfl (.inr rfl) ⟨s', ((tourI o.length i.length).length : Int), rfl, rfl, rfl, rfl, hs, by show (0 : Int) < (vN o i : Int); omega⟩) (by rw [← ea]; rfl))) ?_
  refine s_seq (ρ1 := [.box (.lst [.int (bnP o i (vN o i) s').2]), .val (nestD o i), .val (worldD o i), .val (.tup (dInts (tourI o.length i.length))), .val (.tup (dInts view)), .val (.int ((bnP o i (vN o i) s').1 : Nat)), .any, .any]) ?_ ?_
  · by_cases hi : i = []
    · have e : bnP o i (vN o i) s' = (kDr s' (vN o i), nxI s') := by unfold bnP; rw [if_pos hi]
      rw [e]
      exact s_ifF (t_W (w_andF (t_is (t_neT (ns := i) (ms := []) hr (x_ix (x_v 1) x_int (nestD_it o i) rfl) (x_tup (ds := []) a_nil (Nat.le_of_ble_eq_true rfl))) (by rw [decide_eq_true hi]; rfl)) pw_nevr)) pss_never (s_nil ⟨.inr rfl, .inr rfl, .inr rfl, .inr rfl, .inr rfl, .inr rfl, .inl rfl, .inl rfl, trivial⟩)
    · have hl := List.length_pos_iff.mpr hi
      have tt : ∀ {c : Bool}, (decide (drI (nxI s') 2 = 1)) = c → PT (cxY Y ds_law_bent ["_law_box", "_law_nest_here", "_law_world_here", "_law_tour", "_law_view", "_law_place", "_law_size", "_law_other"] (He.ga Y.K "_law_bent") cdv A outer s H E) (ifT' ((defBody s_law_bent).getD 1 (.Pass ⟨0, 0, 0, 0⟩))) (tTG [.box (.lst [.int (nxI s')]), .val (nestD o i), .val (worldD o i), .val (.tup (dInts (tourI o.length i.length))), .val (.tup (dInts view)), .val (.int ((kDr s' (vN o i) : Nat) : Int)), .any, .any] [.box (.lst [.int (nxI (nxI s'))]), .val (nestD o i), .val (worldD o i), .val (.tup (dInts (tourI o.length i.length))), .val (.tup (dInts view)), .val (.int ((kDr s' (vN o i) : Nat) : Int)), .any, .any] c) := fun {c} hc => by
        rw [← hc]
        exact t_WG (w_andG (t_is (t_neT (ns := i) (ms := []) hr (x_ix (x_v 1) x_int (nestD_it o i) rfl) (x_tup (ds := []) a_nil (Nat.le_of_ble_eq_true rfl))) (by rw [decide_eq_false hi]; rfl)) (w_and1G (t_eq (x_fB 0 (fo_law_draw hh) hr (a_cons x_int a_nil) rfl (.inr rfl) ⟨nxI s', 2, rfl, rfl, rfl, rfl, nxI_bd _, by decide⟩) x_int rfl)))
      by_cases hd : drI (nxI s') 2 = 1
      · obtain ⟨eb, hbk⟩ := kDr_bd (nxI (nxI s')) (n := i.length) hl
        have e : bnP o i (vN o i) s' = (o.length + kDr (nxI (nxI s')) i.length, nxI (nxI (nxI s'))) := by unfold bnP; rw [if_neg hi, if_pos hd]
        rw [e]
        refine s_ifT (tt (decide_eq_true hd)) (s_seq (s_set (d := .int ((o.length + kDr (nxI (nxI s')) i.length : Nat) : Int)) 5 nd (x_is' (x_add (x_lenI hh.b_len (x_ix (x_v 1) x_int (nestD_it o i) rfl)) (x_fB 0 (fo_law_draw hh) hr (a_cons (x_lenI hh.b_len (x_ix (x_v 1) x_int (nestD_it o i) rfl)) a_nil) rfl (.inr rfl) ⟨nxI (nxI s'), (i.length : Int), rfl, rfl, rfl, rfl, nxI_bd _, by omega⟩)) (by rw [eb]; congr 1))) (s_nil ⟨.inr rfl, .inr rfl, .inr rfl, .inr rfl, .inr rfl, .inr rfl, .inl rfl, .inl rfl, trivial⟩)) pss_never
      · have e : bnP o i (vN o i) s' = (kDr s' (vN o i), nxI (nxI s')) := by unfold bnP; rw [if_neg hi, if_neg hd]
        rw [e]
        exact s_ifF (tt (decide_eq_false hd)) pss_never (s_nil ⟨.inr rfl, .inr rfl, .inr rfl, .inr rfl, .inr rfl, .inr rfl, .inl rfl, .inl rfl, trivial⟩)
  refine s_seq (s_set (d := .int (bnZ o i s')) 6 nd (x_rw 2 (x_row (bnK o i s') (x_v 2) (x_add x_int (x_ixI (n := (bnP o i (vN o i) s').1) (x_v 3) (x_v 5) rfl hb)) (by rw [ek]) hk) x_int rfl rfl)) ?_
  refine s_seq (s_set (d := .int (bnO o i view s')) 7 nd (x_is' (x_mod (x_add (x_add (x_ixI (n := (bnP o i (vN o i) s').1) (x_v 4) (x_v 5) rfl hb') x_int) (x_fB 0 (fo_law_great hh) hr (a_cons (x_sub (x_v 6) x_int) a_nil) rfl (.inr rfl) ⟨(bnP o i (vN o i) s').2, bnZ o i s' - 1, rfl, rfl, rfl, rfl, pb, by omega, ((zB.sub (Bd.lit (i := 1) 1)).mono (by decide))⟩)) (x_v 6) (by omega)) (by unfold bnO; rw [getD_get hb']))) ?_
  have ct := cutD_to view (n := ((bnP o i (vN o i) s').1 : Nat)) (k := (bnP o i (vN o i) s').1) rfl (by omega)
  have cf := cutD_from view (n := ((bnP o i (vN o i) s').1 : Int) + 1) (k := (bnP o i (vN o i) s').1 + 1) (by omega) (by omega)
  refine r_ret (x_is (x_catT (x_catT (x_slT (x_v 4) o_no (o_at (x_v 5))) (x_tup (ds := [.int (bnO o i view s')]) (a_cons (x_v 7) a_nil) (Nat.le_of_ble_eq_true rfl)) (by rw [ct, dInts_len, List.length_take]; show _ + 1 ≤ _; omega)) (x_slT (x_v 4) (o_at (x_add (x_v 5) x_int)) o_no) (by rw [ct, cf, List.length_append, dInts_len, dInts_len, List.length_take, List.length_drop]; show _ + 1 + _ ≤ _; omega)) (by rw [ct, cf]; unfold bnV; rw [← dInts_app2, ← dInts_app2]; rfl)) ⟨.inr rfl, .inl rfl, .inl rfl, .inl rfl, .inl rfl, .inl rfl, .inl rfl, .inl rfl, trivial⟩
end Sd

namespace Sd
open PySem PySem.Spec L2
open PyProof.Rows (envOfC)

/-! ### a def that gives a new list -/
section
variable {X : Cx} {ρ ρ1 : List Sl} {d : D} {ds rs : List D} {F : List D → List D → Prop} {j k : Nat} {ps : List Str} {x : Str} {p pos : Pos} {e : Expr} {es : List Expr}
theorem n_fO (G : FoO ⟨X.prog, X.w, X.K, X.mg, X.base⟩ j x ps F) (hr : Room k X.A) (ha : PA X (e :: es) (tA' ρ ds)) (hF : F ds rs) (hj : j ≤ k := by decide) (hg : Gl X x := by rfl) (hdb : (x == ("__debug__" : Str)) = false := by decide) (he : starEach (e :: es) X.env = (false, eval e X.env) :: starEach es X.env := by rfl) (hpl : (backTo pos (starEach es X.env)).any (·.1) = false := by rfl) :
    PE X (.Call (.Name x p) (e :: es) [] pos) (tN ρ rs) := by
  obtain ⟨fd, G1, b1⟩ := G.ex
  refine pe_imp (pe_call (E := E0) G1 (hr.mono hj) hg G.g G.kp b1 .nil passL ha hdb he hpl) fun σ H Q ⟨B, M0, b, P, S, kk⟩ => ⟨B, M0, b, P, S, fun vs H1 S1 => ?_⟩
  obtain ⟨M, O⟩ := S1.opn
  refine ⟨ds, rs, M, hF, O.c.sub, by rw [List.append_nil]; exact O.p.1, fun p xs H' M' c hp mp hx ax => ?_⟩
  have eH : H' = upd (fun a => if a = p then none else H' a) p (.lst xs) := by
    funext a
    by_cases e : a = p
    · subst e; rw [upd_same]; exact hx
    · rw [upd_ne e]; show _ = if a = p then none else H' a; rw [if_neg e]
  have c2 : Core H1 M none M' (fun a => if a = p then none else H' a) := by
    refine ⟨fun a o ha => ?_, c.old, c.eq, fun a o ha hb => ?_, fun a ha => ?_⟩
    · have : a ≠ p := fun z => by rw [z, mp] at ha; cases ha
      show (if a = p then none else H' a) = _
      rw [if_neg this]; exact c.sub a o ha
    · have : a ≠ p := fun z => by rw [z, hp] at ha; cases ha
      show (if a = p then none else H' a) = _
      rw [if_neg this]; exact c.keep a o ha hb
    · have : a ≠ p := fun z => ha (by rw [z]; exact hp)
      show (if a = p then none else H' a) ≠ _
      rw [if_neg this]; exact c.there a ha
  rw [eH]
  exact kk p xs _ ((S1.back O c2 (Up.atL rs xs) ax).imp ((Up.atL _ _).and S.up) fun _ _ q => ⟨q.1, q.2.2⟩) (if_pos rfl)
end
/-! ### a for whose iterable draws -/
def tID (ρ ρ1 : List Sl) (ys : List D) : TI := fun σ H R => ∃ B M0 b P, StV B M0 b ρ P σ H ∧ ∀ J H2 G, StV B M0 b ρ1 (fun M => G M ∧ P M) σ H2 → Up G → GoodIt J ys G → R J H2
section
variable {X : Cx} {W : WX} {CU : Addr} {ρ ρ1 : List Sl} {ys : List D} {tg it : Expr} {pos : Pos} {body : List Stmt} {g : TG} {R R1 : Nat → List Sl}
theorem i_rngD {a : Expr} {n : Int} {p : Pos} (hm : X.mg "range" = none) (ha : PE X a (tG ρ ρ1 (.int n))) (hn : n ≤ 100000) (hn0 : -100000 ≤ n) (hg : Gl X "range" := by rfl) (hs : starEach [a] X.env = (false, eval a X.env) :: starEach [] X.env := by rfl) (hs1 : starEach [a] X.env = [(false, eval a X.env)] := by rfl) :
    PI X tg (.Call (.Name "range" p) [a] [] pos) (tID ρ ρ1 (rngD 0 1 n.toNat)) := pi_imp (pi_range1 hg hm (a_cons ha a_nil hs) hs1) fun σ H R ⟨B, M0, b, P, S, k⟩ => ⟨B, M0, b, P, S, fun vs H1 S1 => by
  obtain ⟨M, _, q, _⟩ := S1.know
  obtain ⟨x, e, h⟩ := atL_1 q
  have ex : x = .int n := h
  subst ex
  exact ⟨n, e, by omega, by omega, k _ H1 _ (S1.imp (Up.true.and S.up) fun _ _ q => ⟨trivial, q.2⟩) Up.true good_rng⟩⟩
theorem s_forD (hp : PassesOwn (model X.prog X.w) X.A X.env X.xe) (hc : X.calm = true) (hi : PI X tg it (tID ρ ρ1 ys)) (hg : PG X tg g) (h0 : SubL (R 0) ρ1) (ht : ∀ (i : Nat) d, ys[i]? = some d → TgD g (R i) d (R1 i))
    (hb : ∀ (i : Nat) d, ys[i]? = some d → PSs X body (tS W CU (R1 i) (.nx (R (i + 1))))) (hs : ∀ x, foldedSetIterable it X.env x = pure x := by intro _; rfl) : PS X (.For tg it body [] pos) (tS W CU ρ (.nx (R ys.length))) := by
  have hB : PSs X body (fun D σ H => ∃ i, i < ys.length ∧ tS W CU (R1 i) (.nx (R (i + 1))) D σ H) := by
    refine ⟨fun pins s σ H D I h => ?_⟩
    obtain ⟨i, h2, h3⟩ := h
    exact (hb i _ (List.getElem?_eq_getElem h2)).run pins s σ H D I h3
  refine ps_imp (ps_for hp hc hi hg hB hs) fun D σ H ⟨B, M0, b, P, S, k⟩ => ⟨B, M0, b, P, S, fun J H1 G S1 uG good => ?_⟩
  refine ⟨fun i q σ H => q = ys.length - i ∧ i ≤ ys.length ∧ StV B M0 b (R i) (fun M => G M ∧ P M) σ H, ⟨_, rfl, Nat.zero_le _, S1.sub h0.sub⟩, ?_⟩
  rintro i q σ H2 ⟨rfl, him, S2⟩
  obtain ⟨M, O⟩ := S2.opn
  obtain ⟨g1, g2⟩ := good M H2 O.p.1 O.c.sub
  by_cases hlt : i < ys.length
  · have hy : ys[i]? = some ys[i] := List.getElem?_eq_getElem hlt
    obtain ⟨j1, j2⟩ := g1 i _ hy
    refine .inr ⟨j1, fun σ' H' => i < ys.length ∧ StV B M0 b (R (i + 1)) (fun M => G M ∧ P M) σ' H', fun σ' H' p' => ⟨ys.length - (i + 1), by omega, rfl, p'.1, p'.2⟩, fun x H3 hy3 => ?_⟩
    obtain ⟨M3, c3, a3⟩ := j2 x H3 hy3
    have S3 := S2.back O c3 (Up.at ys[i] x) a3
    refine ht i _ hy B M0 b _ σ H3 x S3 S2.up _ fun σ4 H4 S4 => ?_
    exact ⟨i, hlt, B, M0, b, _, S4, fun σ5 H5 S5 => ⟨hlt, S5⟩⟩
  · have e : i = ys.length := by omega
    subst e
    exact .inl ⟨g2, k σ H2 (S2.imp S.up fun _ _ q => q.2)⟩
theorem s_forDN {x : Str} {p : Pos} (n : Nat) (nd : X.N.Nodup) (hi : PI X (.Name x p) it (tID ρ ρ1 ys)) (R : Nat → List Sl) (h0 : SubL (R 0) ρ1) (hb : ∀ (i : Nat) d, ys[i]? = some d → PSs X body (tS W CU ((R i).set n (.val d)) (.nx (R (i + 1)))))
    (hp : PassesOwn (model X.prog X.w) X.A X.env X.xe := by exact passes_of rfl) (hc : X.calm = true := by rfl) (hN : X.N[n]? = some x := by rfl) (hx : Loc X.env.scope x := by first | exact Or.inl rfl | exact Or.inr rfl)
    (hf : X.fn x = true ∨ X.env.scope.names.lookup x = some .local := by first | exact .inl rfl | exact .inr rfl | assumption) (hs : ∀ x, foldedSetIterable it X.env x = pure x := by intro _; rfl) : PS X (.For (.Name x p) it body [] pos) (tS W CU ρ (.nx (R ys.length))) :=
  s_forD hp hc hi (pg_name nd hN hx hf) (R1 := fun i => (R i).set n (.val (ys.getD i .non))) h0 (fun i d hi => by
    have e : ys.getD i .non = d := by rw [List.getD_eq_getElem?_getD, hi]; rfl
    show TgD _ _ _ ((R i).set n (.val (ys.getD i .non)))
    rw [e]; exact tg_name) (fun i d hi => by
    have e : ys.getD i .non = d := by rw [List.getD_eq_getElem?_getD, hi]; rfl
    show PSs X body (tS W CU ((R i).set n (.val (ys.getD i .non))) _)
    rw [e]; exact hb i d hi) hs
end
end Sd

namespace Sd
open PySem PySem.Spec L2
open PyProof.Rows (envOfC)

/-! ### the law's def, of whatever function object -/
def FoL (Y : Wo) (k : Nat) (d : He.DefD) (x : Str) (ps : List Str) (F : List D → Res → Prop) : Prop := ∀ fd : FuncData, FunD Y.K d.name d.qual d.params d.body d.scope [] (He.DefD.kws Y.K d) (He.ga Y.K x) fd → FnOk Y.P Y.w Y.K Y.mg Y.base (L2.CX Y.P Y.w) k (He.ga Y.K x) fd ps (spF (cuA Y.K) F)
theorem mkL {Y : Wo} {x : Str} {ps N : List Str} {k : Nat} {F : List D → Res → Prop} (hh : Y.hd) (i : Nat) (d : He.DefD) (S : FnScope N ps d.scope) (bq : BindQ d ps) (hl : ∀ ds r, F ds r → ds.length = ps.length)
    (hb : ∀ (cdv : Value) (A : Around) (outer : List Env) (s : Shared) (H : Hp) (E : XK) (ds : List D) (r : Res), Room k (cxY Y d N (He.ga Y.K x) cdv A outer s H E).A → F ds r → PSs (cxY Y d N (He.ga Y.K x) cdv A outer s H E) d.body (tS (wE E) (cuA Y.K) (entry N ds) (outF (anys N.length) r))) : FoL Y (k + 1) d x ps F :=
  fun fd Fn => okF Fn S hl fun cdv A outer s H E ds r hr h => ⟨_, hb cdv A outer s H E ds r hr h⟩
/-! ### the drawn nest is a nest -/
theorem many_le {i : List Int} (hi : SzB i) : (corOf i).many ≤ pr i := by
  match i, hi with
  | [], _ => show (1 : Int) ≤ 1; decide
  | [s], _ => show s ≤ s * 1; omega
  | a :: b :: t, hi =>
    have h2 : 2 ≤ (a :: b :: t).length := by simp
    have hm := mshOf_ok h2 hi
    have L0 := hm.L0
    have R0 := hm.R0
    rw [many_2 h2]
    have e : pr (a :: b :: t) = (mshOf (a :: b :: t)).L * (mshOf (a :: b :: t)).R := by
      have eR : (mshOf (a :: b :: t)).R = pr ((a :: b :: t).drop (gapI (a :: b :: t) + 1)) := pr_rev _
      rw [eR]
      show _ = pr ((a :: b :: t).take _) * _
      rw [← pr_app, List.take_append_drop]
    rw [e]
    have := Int.mul_nonneg (show 0 ≤ (mshOf (a :: b :: t)).L - 1 by omega) (show 0 ≤ (mshOf (a :: b :: t)).R - 1 by omega)
    rw [Int.sub_mul, Int.mul_sub, Int.one_mul, Int.mul_one] at this
    omega
theorem nok_ns (s : Int) : NOk (nsO s) (nsN s) := by
  have ho := nsO_ok s
  have hi := nsN_ok s
  obtain ⟨l1, l2, l3⟩ := ns_len s
  have hM := Cor.many_pos (corOf_ok hi)
  have hle := many_le hi
  have b1 : Bd 1231 (pr (nsN s)) := (pr_bd hi.bits).mono (by omega)
  have b2 : Bd 165 (pr (nsO s)) := (pr_bd ho.bits).mono (by omega)
  have b3 : Bd 1231 (corOf (nsN s)).many := b1.le (by omega) hle
  refine ⟨ho, hi, b3.mono (by decide), (b3.mul b2).mono (by decide), ?_⟩
  by_cases h : nsO s = []
  · right
    intro z
    rw [h, z] at l3
    simp at l3
  · exact .inl h
/-! ### views of moments -/
def viewM (o i ms : List Int) : List Int := (List.range (vN o i)).map fun k => showsI o i ((tourI o.length i.length).getD k 0).toNat (ms.getD k 0)
theorem viewM_len {o i ms : List Int} : (viewM o i ms).length = vN o i := by simp [viewM]
theorem viewM_get {o i ms : List Int} {j k : Nat} (h : j < (viewM o i ms).length) (ht : j < (tourI o.length i.length).length) (hm : j < ms.length) (hk : (tourI o.length i.length)[j] = (k : Int)) : (viewM o i ms)[j] = showsI o i k ms[j] := by
  simp only [viewM, List.getElem_map, List.getElem_range]
  rw [getD_get ht, getD_get hm, hk, Int.toNat_natCast]
theorem viewM_ok {o i : List Int} (N : NOk o i) {ms : List Int} (hm : ms.length = vN o i) : viewOk o i (viewM o i ms) := by
  refine ⟨viewM_len, fun j h1 h2 => ?_⟩
  have ht : j < (tourI o.length i.length).length := by rw [picks_len] at h1; exact h1
  obtain ⟨k, a, b⟩ := tourI_get ht
  obtain ⟨_, pe⟩ := picks_at ht a
  rw [pe, viewM_get h2 ht (by rw [viewM_len] at h2; omega) a]
  exact showsI_bd N.zo N.zi b _
theorem seen_ex {o i : List Int} (N : NOk o i) {ms : List Int} (hl : ms.length = vN o i) (hm : ∀ (j : Nat) (h : j < ms.length), 0 ≤ ms[j] ∧ ms[j] < totI o i) (hmo : ∀ (j : Nat) (h : j + 1 < ms.length), ms[j] ≤ ms[j + 1]) :
    ∃ es bs, LsQ o i (tourI o.length i.length) (viewM o i ms) es ∧ LbQ o i (tourI o.length i.length) (viewM o i ms) bs ∧ es.length = vN o i ∧ bs.length = vN o i ∧
      (∀ (p k : Nat) (h : p < es.length) (ht : p < (tourI o.length i.length).length) (hv : p < (viewM o i ms).length), (tourI o.length i.length)[p] = (k : Int) → 0 ≤ es[p] ∧ es[p] < totI o i ∧ showsI o i k es[p] = (viewM o i ms)[p]) ∧
      (∀ (p k : Nat) (h : p < bs.reverse.length) (ht : p < (tourI o.length i.length).length) (hv : p < (viewM o i ms).length), (tourI o.length i.length)[p] = (k : Int) → 0 ≤ bs.reverse[p] ∧ bs.reverse[p] < totI o i ∧ showsI o i k bs.reverse[p] = (viewM o i ms)[p]) := by
  have W := W_of N
  have hv := viewM_ok N hl
  have V := VT_of N hv
  obtain ⟨es, E, Eb⟩ := early_ex W V
  obtain ⟨bs, B, Bb⟩ := late_ex W V
  have he : es.length = vN o i := es_seen W V E Eb hl hm hmo (fun j k h1 h2 h3 hk => viewM_get h2 h1 h3 hk)
  have hb : bs.length = vN o i := bs_both W V E Eb B Bb he
  refine ⟨es, bs, E, B, he, hb, fun p k h ht hv' hk => ?_, fun p k h ht hv' hk => ?_⟩
  · obtain ⟨k', _, _, a, _, _, c, d, e⟩ := es_turn W V E Eb h
    have : k' = k := by rw [hk] at a; omega
    subst this
    exact ⟨c, d, e⟩
  · have hp : p < bs.length := by rw [List.length_reverse] at h; exact h
    have hj : bs.length - 1 - p < bs.length := by omega
    obtain ⟨k', p', h1, h2, ep, a, _, c, d, e⟩ := bs_turn W V B Bb hj
    have eb : bs.reverse[p] = bs[bs.length - 1 - p] := List.getElem_reverse h
    have : p' = p := by
      have : (tourI o.length i.length).length = vN o i := rfl
      omega
    subst this
    have : k' = k := by rw [hk] at a; omega
    subst this
    rw [eb]
    exact ⟨c, d, e⟩
/-! ### the law's laps -/
def lpM (o i : List Int) (s st : Int) : List Int := wtL o i (2 * (tourI o.length i.length).length) (drI s 4) (nxI s) st (tourI o.length i.length).length
def lpA (o i : List Int) (s st : Int) : Int := (wtI o i (2 * (tourI o.length i.length).length) (drI s 4) (nxI s) st (tourI o.length i.length).length).1
def lpI (o i : List Int) (s st : Int) : Nat → Int × Int
  | 0 => (s, st)
  | j + 1 => (nxI (nxI (lpA o i (lpI o i s st j).1 (lpI o i s st j).2)), min (totI o i - 1) ((lpM o i (lpI o i s st j).1 (lpI o i s st j).2).getD (vN o i - 1) 0 + drI (nxI (lpA o i (lpI o i s st j).1 (lpI o i s st j).2)) 3))
def lpV (o i : List Int) (s st : Int) : Nat → List Int
  | 0 => []
  | j + 1 => viewM o i (lpM o i (lpI o i s st j).1 (lpI o i s st j).2)
theorem vN2 {o i : List Int} (N : NOk o i) : 1 ≤ o.length + i.length ∧ (0 : Int) < 2 * ((tourI o.length i.length).length : Int) ∧ 1 ≤ (tourI o.length i.length).length ∧ (tourI o.length i.length).length ≤ 1000 := by
  have hp := vN_pos N
  have tl := tourI_len o.length i.length
  have l1 := N.zo.len
  have l2 := N.zi.len
  have : vN o i = (tourI o.length i.length).length := rfl
  omega
theorem lpM_ok {o i : List Int} (N : NOk o i) {s st : Int} (hs : BxI s) (h0 : 0 ≤ st) (h1 : st < totI o i) : (lpM o i s st).length = vN o i ∧ (∀ (j : Nat) (h : j < (lpM o i s st).length), 0 ≤ (lpM o i s st)[j] ∧ (lpM o i s st)[j] < totI o i) ∧ (∀ (j : Nat) (h : j + 1 < (lpM o i s st).length), (lpM o i s st)[j] ≤ (lpM o i s st)[j + 1]) ∧ BxI (lpA o i s st) := by
  obtain ⟨n1, n2, _, _⟩ := vN2 N
  have bd := fun j => wtI_bd (W_of N) n1 (pace := drI s 4) n2 (nxI_bd s) h0 h1 j
  have mo := fun j => wtI_mono (W_of N) n1 (pace := drI s 4) n2 (nxI_bd s) h0 h1 j
  refine ⟨wtL_len, fun j h => ?_, fun j h => ?_, (bd _).1⟩
  · unfold lpM at h ⊢
    rw [wtL_get h]
    exact (bd (j + 1)).2
  · unfold lpM at h ⊢
    rw [wtL_get (by omega), wtL_get h]
    exact mo (j + 1)
theorem lpI_bd {o i : List Int} (N : NOk o i) {s st : Int} (hs : BxI s) (h0 : 0 ≤ st) (h1 : st < totI o i) : ∀ j, BxI (lpI o i s st j).1 ∧ 0 ≤ (lpI o i s st j).2 ∧ (lpI o i s st j).2 < totI o i
  | 0 => ⟨hs, h0, h1⟩
  | j + 1 => by
    obtain ⟨a, b, c⟩ := lpI_bd N hs h0 h1 j
    obtain ⟨e1, e2, e3, e4⟩ := lpM_ok N a b c
    have hp := vN_pos N
    have d := drI_bd (nxI (lpA o i (lpI o i s st j).1 (lpI o i s st j).2)) (show (0 : Int) < 3 by decide)
    have m := e2 (vN o i - 1) (by omega)
    rw [← getD_get] at m
    refine ⟨nxI_bd _, ?_, ?_⟩
    · show 0 ≤ min _ _; omega
    · show min _ _ < _; omega
def bnI (o i : List Int) (s : Int) (v : List Int) : Nat → Int × List Int
  | 0 => (s, v)
  | j + 1 => (bnS o i (bnI o i s v j).1, bnV o i (bnI o i s v j).2 (bnI o i s v j).1)
theorem bnI_ok {o i : List Int} (N : NOk o i) {s : Int} {v : List Int} (hs : BxI s) (hv : viewOk o i v) : ∀ j, BxI (bnI o i s v j).1 ∧ viewOk o i (bnI o i s v j).2
  | 0 => ⟨hs, hv⟩
  | j + 1 => by
    obtain ⟨a, b⟩ := bnI_ok N hs hv j
    exact ⟨nxIt_bd (bnP_bd N a).2 _, bnV_ok N a b⟩
theorem rgI_cat (n m : Nat) : rgI 0 (n + m) = rgI 0 n ++ rgI n m := by
  apply List.ext_getElem?
  intro j
  by_cases h : j < n
  · rw [List.getElem?_append_left (by rw [rgI_len]; exact h), rgI_get (by omega), rgI_get h]
  · rw [List.getElem?_append_right (by rw [rgI_len]; omega), rgI_len]
    by_cases h2 : j < n + m
    · rw [rgI_get h2, rgI_get (by omega)]; congr 1; omega
    · rw [List.getElem?_eq_none (by rw [rgI_len]; omega), List.getElem?_eq_none (by rw [rgI_len]; omega)]
/-! ### law -/
def F_law (Y : Wo) (ds : List D) (r : Res) : Prop := ∃ ns : List Int, ds = [.arg Y.K ns] ∧ r = .ok (.bl true) ∧ ns.length ≤ 1000
theorem sc_law : FnScope ["_law_script", "_law_box", "_law_nest_here", "_law_world_here", "_law_teller", "_law_outer_here", "_law_tour", "_law_stage", "_law_view", "_law_lap", "_law_moments", "_law_early", "_law_late", "_law_place", "_law_seen", "_law_k"] ["_law_script"] (defScope s_law) := ⟨rfl, rfl, rfl, by decide +kernel, rfl, by decide +kernel, by decide +kernel⟩
theorem fo_law {Y : Wo} (hh : Y.hd) : FoL Y 16 ds_law "law" ["_law_script"] (F_law Y) := by
  have nd : (["_law_script", "_law_box", "_law_nest_here", "_law_world_here", "_law_teller", "_law_outer_here", "_law_tour", "_law_stage", "_law_view", "_law_lap", "_law_moments", "_law_early", "_law_late", "_law_place", "_law_seen", "_law_k"] : List Str).Nodup := sc_law.nd
  refine mkL (k := 15) (N := ["_law_script", "_law_box", "_law_nest_here", "_law_world_here", "_law_teller", "_law_outer_here", "_law_tour", "_law_stage", "_law_view", "_law_lap", "_law_moments", "_law_early", "_law_late", "_law_place", "_law_seen", "_law_k"]) hh 72 ds_law sc_law (fun _ _ _ _ _ _ us hl => match us, hl with | [_], _ => rfl) (by rintro ds r ⟨ns, rfl, rfl, hnl⟩; rfl) ?_
  rintro cdv A outer s H E ds r hr ⟨ns, rfl, rfl, hnl⟩
  generalize hs0 : stI ns ns.length = s0
  have b0 : BxI s0 := by rw [← hs0]; exact stI_bd ns _ (Nat.le_refl _)
  have N := nok_ns s0
  have b1 : BxI (nsE s0) := nsE_bd s0
  generalize hs1 : nsE s0 = s1 at b1
  generalize ho : nsO s0 = o at N
  generalize hi : nsN s0 = i at N
  have W := W_of N
  have l1 := N.zo.len
  have l2 := N.zi.len
  have hM := N.pos
  have hT := totI_pos W
  obtain ⟨n1, n2, n3, n4⟩ := vN2 N
  have tl := tourI_len o.length i.length
  have hvn : vN o i = (tourI o.length i.length).length := rfl
  obtain ⟨b2, m0, m1⟩ := mmR_bd W s1
  refine s_seq (s_setN 1 nd (n_fO (fo_law_start hh) hr (a_cons (x_v 0) a_nil) ⟨ns, rfl, by rw [hs0], hnl⟩)) ?_
  refine s_seq (s_set (d := nestD o i) 2 nd (x_is' (x_fB 1 (fo_law_nest hh) hr a_nil rfl (.inl rfl) ⟨s0, rfl, rfl, rfl, rfl, b0⟩) (by rw [ho, hi]; rfl))) ?_
  refine s_cast (ρ' := [.val (.arg Y.K ns), .own (.lst [.int s1]), .val (nestD o i), .any, .any, .any, .any, .any, .any, .any, .any, .any, .any, .any, .any, .any]) (by rw [← hs1]; rfl) ?_
  refine s_seq (s_set (d := worldD o i) 3 nd (x_f (fo_law_world hh) hr (a_cons (x_v 2) a_nil) ⟨o, i, rfl, rfl, N.zo, N.zi, N.bM⟩)) ?_
  refine s_seq (s_set (d := tellD Y.K o i) 4 nd (x_mk (fo_Teller_init hh) hr (a_cons (x_ix (x_v 2) x_int (nestD_it o i) rfl) (a_cons (x_ix (x_v 2) x_int (nestD_it o i) rfl) a_nil)) ⟨o, i, rfl, rfl, rfl, N.zo, N.zi, N.ne⟩)) ?_
  refine s_seq (s_set (d := .lst (dInts (rgI 0 o.length))) 5 nd (x_is (x_lstRg hh.b_list (rg_1 hh.b_range (x_lenI hh.b_len (x_ix (x_v 2) x_int (nestD_it o i) rfl))) (by omega)) (by rw [Int.sub_zero, Int.toNat_natCast]))) ?_
  refine s_seq (s_set (d := .tup (dInts (tourI o.length i.length))) 6 nd (x_is (x_tupL hh.b_tuple (x_catL (x_is (x_lstRg (n := 0) (m := ((o.length + i.length : Nat) : Int)) hh.b_list (rg_1 hh.b_range (x_is (x_sub (x_lenW hh.b_len (x_v 3)) x_int) (show D.int (3 + ((o.length + i.length : Nat) : Int) - 3) = D.int ((o.length + i.length : Nat) : Int) by congr 1; omega))) (by omega)) (show _ = D.lst (dInts (rgI 0 (o.length + i.length))) by rw [Int.sub_zero, Int.toNat_natCast])) (x_revL (x_v 5)) (by rw [List.length_reverse, dInts_len, dInts_len, rgI_len, rgI_len]; omega))) (by rw [dInts_rev, dInts_app2, rgI_cat]; rfl))) ?_
  refine r_skip (t_is (t_W (w_or (t_not (t_val (c := true) (x_f (fo_law_same hh) hr (a_cons (x_is (x_f (fo_nest_held hh) hr (a_cons (x_v 2) a_nil) ⟨o, i, rfl, rfl, N.zo, N.zi, N.bM.mono (by decide)⟩) (show _ = D.int ((corOf i).many * pr o) by rw [Int.mul_comm])) (a_cons (x_w2 (x_v 3) x_int) a_nil)) ⟨_, rfl, rfl, (rfl : sclD (.int _) = true)⟩))) (fun _ => w_or1 (t_not (t_val (c := true) (x_f (fo_law_same hh) hr (a_cons (x_dn (W := wE E) (CU := cuA Y.K) (x_kX (fk_nest_tour hh) hr (takes_of rfl rfl rfl rfl) (fun z => z) (fun z => z) (k_cons (x_v 2) k_nil) ⟨o, i, rfl, rfl, N.zo, N.zi⟩)) (a_cons (x_v 6) a_nil)) ⟨_, rfl, rfl, same_ints n4⟩)))))) rfl) ?_
  refine s_seq (s_set (d := .int (mmR o i s1).2) 7 nd (x_fB 1 (fo_law_moment hh) hr (a_cons (x_v 3) a_nil) rfl (.inl rfl) ⟨o, i, s1, rfl, rfl, rfl, rfl, W, n1, b1⟩)) ?_
  refine s_seq (s_set (d := .tup []) 8 nd (x_tup (ds := []) a_nil (Nat.le_of_ble_eq_true rfl))) ?_
  generalize (mmR o i s1).1 = s2 at b2
  generalize (mmR o i s1).2 = st2 at m0 m1
  have lb := lpI_bd N b2 m0 m1
  refine s_seq (s_forN 9 nd (i_rng1 (n := 2) hh.b_range x_int (by decide) (by decide)) (fun j => [.any, .own (.lst [.int (lpI o i s2 st2 j).1]), .val (nestD o i), .val (worldD o i), .val (tellD Y.K o i), .any, .val (.tup (dInts (tourI o.length i.length))), .val (.int (lpI o i s2 st2 j).2), .val (.tup (dInts (lpV o i s2 st2 j))), .any, .any, .any, .any, .any, .any, .any]) ⟨.inl rfl, .inr rfl, .inr rfl, .inr rfl, .inr rfl, .inl rfl, .inr rfl, .inr rfl, .inr rfl, .inl rfl, .inl rfl, .inl rfl, .inl rfl, .inl rfl, .inl rfl, .inl rfl, trivial⟩ (fun j d hj => ?_)) ?_
  · obtain ⟨lb1, lb2, lb3⟩ := lb j
    have eI : lpI o i s2 st2 (j + 1) = (nxI (nxI (lpA o i (lpI o i s2 st2 j).1 (lpI o i s2 st2 j).2)), min (totI o i - 1) ((lpM o i (lpI o i s2 st2 j).1 (lpI o i s2 st2 j).2).getD (vN o i - 1) 0 + drI (nxI (lpA o i (lpI o i s2 st2 j).1 (lpI o i s2 st2 j).2)) 3)) := rfl
    have eV : lpV o i s2 st2 (j + 1) = viewM o i (lpM o i (lpI o i s2 st2 j).1 (lpI o i s2 st2 j).2) := rfl
    rw [eI, eV]
    generalize lpV o i s2 st2 j = vj
    generalize (lpI o i s2 st2 j).1 = s at lb1
    generalize (lpI o i s2 st2 j).2 = st at lb2 lb3
    obtain ⟨q1, q2, q3, q4⟩ := lpM_ok N lb1 lb2 lb3
    have eM : lpM o i s st = wtL o i (2 * (tourI o.length i.length).length) (drI s 4) (nxI s) st (tourI o.length i.length).length := rfl
    have eA : lpA o i s st = (wtI o i (2 * (tourI o.length i.length).length) (drI s 4) (nxI s) st (tourI o.length i.length).length).1 := rfl
    refine s_seq (s_set (d := .lst (dInts (lpM o i s st))) 10 nd (x_fB 1 (fo_law_watch hh) hr (a_cons (x_v 3) (a_cons (x_v 6) (a_cons (x_v 7) a_nil))) rfl (.inl rfl) ⟨o, i, tourI o.length i.length, s, st, rfl, rfl, rfl, rfl, W, n1, lb1, lb2, lb3, n3, n4⟩)) ?_
    rw [← eA]
    clear eM eA
    obtain ⟨es, bs, E, B, el, bl, he, hb⟩ := seen_ex N q1 q2 q3
    have hv := viewM_ok N q1
    have hvl : (viewM o i (lpM o i s st)).length = vN o i := viewM_len
    refine s_seq (s_set (d := .tup (dInts (viewM o i (lpM o i s st)))) 8 nd (x_tupL hh.b_tuple (x_is (x_lcN (ys := rngD 0 1 (((tourI o.length i.length).length : Int)).toNat) 15 (fun k => .int (showsI o i ((tourI o.length i.length).getD k 0).toNat ((lpM o i s st).getD k 0))) nd (i_rng1 hh.b_range (x_lenI hh.b_len (x_v 6)) (by omega) (by omega)) (by rw [rngD_len]; omega) ?_) (by rw [rngD_len, Int.toNat_natCast, lc_ints]; rfl)))) ?_
    · intro shd Hh C cl fp k d hk
      obtain ⟨hl, rfl⟩ := rngD_get hk
      have hk : k < (tourI o.length i.length).length := by omega
      have hkm : k < (lpM o i s st).length := by omega
      rw [show (0 : Int) + (k : Int) * 1 = (k : Int) by omega]
      obtain ⟨kk, a, b⟩ := tourI_get hk
      have mb := q2 k hkm
      refine x_is (x_f (fo_law_shows hh) hr (a_cons (x_v 3) (a_cons (x_ixI (n := k) (x_v 6) (x_v 15) rfl hk) (a_cons (x_ix (d1 := .lst (dInts (lpM o i s st))) (ds := dInts (lpM o i s st)) (x_v 10) (x_v 15) rfl (atI_int hkm)) a_nil))) ⟨o, i, kk, (lpM o i s st)[k], by rw [a], rfl, W, b, mb.1, W.hT.le mb.1 (Int.le_of_lt mb.2)⟩) ?_
      rw [getD_get hk, getD_get hkm, a, Int.toNat_natCast]
    refine s_seq (s_asg2 11 12 nd (a := .tup (dInts es)) (b := .tup (dInts bs.reverse)) (x_is (x_f (fo_law_spans hh) hr (a_cons (x_v 3) (a_cons (x_v 6) (a_cons (x_v 8) a_nil))) ⟨o, i, tourI o.length i.length, viewM o i (lpM o i s st), _, es, bs, rfl, rfl, .t, W, fullL N.zo N.zi, (VT_of N hv).tv W, E, B⟩) (by rw [show earlyD es (tourI o.length i.length).length = .tup (dInts es) from if_pos el, show lateD bs (tourI o.length i.length).length = .tup (dInts bs.reverse) from if_pos bl]))) ?_
    refine r_skip (t_not (t_val (c := true) (x_f (fo_law_told hh) hr (a_cons (x_v 2) (a_cons (x_v 4) (a_cons (x_v 3) (a_cons (x_v 6) (a_cons (x_v 8) a_nil))))) ⟨o, i, viewM o i (lpM o i s st), rfl, rfl, N, hv⟩))) ?_
    obtain ⟨ep, hp⟩ := kDr_bd (lpA o i s st) n3
    refine s_seq (s_set (d := .int ((kDr (lpA o i s st) (tourI o.length i.length).length : Nat) : Int)) 13 nd (x_is' (x_fB 1 (fo_law_draw hh) hr (a_cons (x_lenI hh.b_len (x_v 6)) a_nil) rfl (.inl rfl) ⟨(lpA o i s st), ((tourI o.length i.length).length : Int), rfl, rfl, rfl, rfl, q4, by omega⟩) (by rw [← ep]))) ?_
    generalize kDr (lpA o i s st) (tourI o.length i.length).length = p at hp
    obtain ⟨kk, a, b⟩ := tourI_get hp
    have pe : p < es.length := by omega
    have pb : p < bs.reverse.length := by rw [List.length_reverse]; omega
    have pv : p < (viewM o i (lpM o i s st)).length := by omega
    have pm : p < (lpM o i s st).length := by omega
    obtain ⟨e0, e1, e2⟩ := he p kk pe hp pv a
    obtain ⟨f0, f1, f2⟩ := hb p kk pb hp pv a
    have rA : ∀ {X : Cx} {ρ : List Sl} {x y : Expr} {p1 p2 : Pos} {z : Int}, Hd X.K X.mg → Room 15 X.A → Gl X "row_at" → (starEach (x :: [y]) X.env = (false, eval x X.env) :: starEach [y] X.env) → True := fun _ _ _ _ => trivial
    have row : ∀ z : Int, 0 ≤ z → z < totI o i → F_row_at [nestD o i, .int z] (.ok (.tup (dInts (rowL o i z)))) := fun z z0 z1 => by
      obtain ⟨_, r0, r1⟩ := lap_rest z hM
      exact ⟨o, i, z, kOf i (z % (corOf i).many), rfl, by rw [nest_vals N.zo N.zi z0]; rfl, N, z0, z1, kOf_cor N.zi r0 r1⟩
    have kl : ∀ z : Int, kk < (rowL o i z).length := fun z => by rw [rowL_len]; exact b
    refine s_seq (s_set (d := .tup (dInts [(viewM o i (lpM o i s st))[p], (viewM o i (lpM o i s st))[p]])) 14 nd (x_is (x_tup (ds := [.int (showsI o i kk es[p]), .int (showsI o i kk bs.reverse[p])]) (a_cons (x_is (x_ixI (n := kk) (x_f (fo_row_at hh) hr (a_cons (x_v 2) (a_cons (x_ixI (n := p) (x_v 11) (x_v 13) rfl pe) a_nil)) (row _ e0 e1)) (x_ixI (n := p) (x_v 6) (x_v 13) rfl hp) a (kl _)) (by rw [rowL_get])) (a_cons (x_is (x_ixI (n := kk) (x_f (fo_row_at hh) hr (a_cons (x_v 2) (a_cons (x_ixI (n := p) (x_v 12) (x_v 13) rfl pb) a_nil)) (row _ f0 f1)) (x_ixI (n := p) (x_v 6) (x_v 13) rfl hp) a (kl _)) (by rw [rowL_get])) a_nil)) (Nat.le_of_ble_eq_true rfl)) (by rw [e2, f2]; rfl))) ?_
    have mb := q2 p pm
    refine r_skip (t_is (t_W (w_or (t_not (t_val (c := true) (x_f (fo_law_same hh) hr (a_cons (x_v 14) (a_cons (x_tup (ds := dInts [(viewM o i (lpM o i s st))[p], (viewM o i (lpM o i s st))[p]]) (a_cons (x_ixI (n := p) (x_v 8) (x_v 13) rfl pv) (a_cons (x_ixI (n := p) (x_v 8) (x_v 13) rfl pv) a_nil)) (Nat.le_of_ble_eq_true rfl)) a_nil)) ⟨_, rfl, rfl, same_ints (by show 2 ≤ 1000; decide)⟩))) (fun _ => w_or1 (t_not (t_val (c := true) (x_f (fo_law_rows hh) hr (a_cons (x_v 2) (a_cons (x_v 3) (a_cons (x_ix (d1 := .lst (dInts (lpM o i s st))) (ds := dInts (lpM o i s st)) (x_v 10) (x_v 13) rfl (atI_int pm)) a_nil))) ⟨o, i, (lpM o i s st)[p], rfl, rfl, N, mb.1, mb.2⟩)))))) rfl) ?_
    refine s_seq (s_set (d := .int (min (totI o i - 1) ((lpM o i s st).getD (vN o i - 1) 0 + drI (nxI (lpA o i s st)) 3))) 7 nd (x_minG hh.b_min rfl (x_sub (x_w2 (x_v 3) x_int) x_int) (x_add (x_ix (d1 := .lst (dInts (lpM o i s st))) (ds := dInts (lpM o i s st)) (x_v 10) (x_neg x_int) rfl (atI_last q1 (by omega))) (x_fB 1 (fo_law_draw hh) hr (a_cons x_int a_nil) rfl (.inl rfl) ⟨nxI (lpA o i s st), 3, rfl, rfl, rfl, rfl, nxI_bd _, by decide⟩)))) ?_
    exact s_nil ⟨.inl rfl, .inr rfl, .inr rfl, .inr rfl, .inr rfl, .inl rfl, .inr rfl, .inr rfl, .inr rfl, .inl rfl, .inl rfl, .inl rfl, .inl rfl, .inl rfl, .inl rfl, .inl rfl, trivial⟩
  have e2 : (rngD 0 1 (2 : Int).toNat).length = 2 := by rw [rngD_len]; rfl
  rw [e2]
  obtain ⟨c1, c2, c3⟩ := lb 2
  obtain ⟨d1, d2, d3⟩ := lb 1
  have hv : viewOk o i (lpV o i s2 st2 2) := viewM_ok N (lpM_ok N d1 d2 d3).1
  generalize lpV o i s2 st2 2 = v at hv
  generalize (lpI o i s2 st2 2).1 = s at c1
  generalize (lpI o i s2 st2 2).2 = st
  have dd := drI_bd s (show (0 : Int) < 3 by decide)
  have bk := bnI_ok N (nxI_bd s) hv
  refine s_seq (s_forDN (ys := rngD 0 1 (1 + drI s 3).toNat) 9 nd (i_rngD (ρ1 := [.any, .own (.lst [.int (nxI s)]), .val (nestD o i), .val (worldD o i), .val (tellD Y.K o i), .any, .val (.tup (dInts (tourI o.length i.length))), .val (.int st), .val (.tup (dInts v)), .any, .any, .any, .any, .any, .any, .any]) hh.b_range (x_add x_int (x_fB 1 (fo_law_draw hh) hr (a_cons x_int a_nil) rfl (.inl rfl) ⟨s, 3, rfl, rfl, rfl, rfl, c1, by decide⟩)) (by omega) (by omega)) (fun j => [.any, .own (.lst [.int (bnI o i (nxI s) v j).1]), .val (nestD o i), .val (worldD o i), .val (tellD Y.K o i), .any, .val (.tup (dInts (tourI o.length i.length))), .any, .val (.tup (dInts (bnI o i (nxI s) v j).2)), .any, .any, .any, .any, .any, .any, .any]) ⟨.inl rfl, .inr rfl, .inr rfl, .inr rfl, .inr rfl, .inl rfl, .inr rfl, .inl rfl, .inr rfl, .inl rfl, .inl rfl, .inl rfl, .inl rfl, .inl rfl, .inl rfl, .inl rfl, trivial⟩ (fun j d hj => ?_)) ?_
  · obtain ⟨k1, k2⟩ := bk j
    refine s_seq (s_set (d := .tup (dInts (bnI o i (nxI s) v (j + 1)).2)) 8 nd (x_fB 1 (fo_law_bent hh) hr (a_cons (x_v 2) (a_cons (x_v 3) (a_cons (x_v 6) (a_cons (x_v 8) a_nil)))) rfl (.inl rfl) ⟨o, i, (bnI o i (nxI s) v j).2, (bnI o i (nxI s) v j).1, rfl, rfl, rfl, rfl, N, k2, k1⟩)) ?_
    exact s_nil ⟨.inl rfl, .inr rfl, .inr rfl, .inr rfl, .inr rfl, .inl rfl, .inr rfl, .inl rfl, .inr rfl, .inl rfl, .inl rfl, .inl rfl, .inl rfl, .inl rfl, .inl rfl, .inl rfl, trivial⟩
  · exact r_ret (x_f (fo_law_told hh) hr (a_cons (x_v 2) (a_cons (x_v 4) (a_cons (x_v 3) (a_cons (x_v 6) (a_cons (x_v 8) a_nil))))) ⟨o, i, _, rfl, rfl, N, (bk _).2⟩) sa
end Sd

set_option maxHeartbeats 0
namespace Sd
open PySem PySem.Spec PyProof.Rows L2
/-! ### the end: the law's def, as the head left it, over every base -/
theorem lawAt {w : World} {K : PySem.W.Frag} {h : Heap} {mg : Str → Option Value} {f : Addr} (kin : K.In h) (ns : h.Ns mainGlobals mg) (hf : mg ("law" : Str) = some (.ref f)) (says : He.SaysD faL fnL K) (ex : exU K = true) :
    ∃ fd : FuncData, (∀ (s : Shared) (u : Value), BindsTo s fd ⟨[u], []⟩ [("_law_script", u)]) ∧ ∀ base : Heap, K.In base → base.Ns mainGlobals mg → FnOk PySem.Challenge.pw_stoodthen_k51_whole_told_at_any_size w K mg base (L2.CX PySem.Challenge.pw_stoodthen_k51_whole_told_at_any_size w) 16 f fd ["_law_script"] (spF (cuA K) (F_law ⟨PySem.Challenge.pw_stoodthen_k51_whole_told_at_any_size, w, K, mg, h⟩)) := by
  obtain ⟨fd, Fn⟩ := says.def_ 72 (d := ds_law) rfl
  have hd : Hd K mg := ⟨says, ex, h, kin, ns⟩
  have ed : He.DefD.dvs K ds_law = [] := rfl
  have ea : He.fAd K ds_law.at_ = He.ga K "law" := rfl
  rw [ea, ed] at Fn
  have ef : f = He.ga K "law" := by
    have := hf.symm.trans (hd.glo 72)
    cases this; rfl
  subst ef
  refine ⟨fd, fun s u => ?_, fun base hb hn => ?_⟩
  · exact FunD.bindsA (ps := ["_law_script"]) Fn (fun _ _ _ _ _ _ us hl => match us, hl with | [_], _ => rfl) s [u] rfl
  · exact fo_law (Y := ⟨PySem.Challenge.pw_stoodthen_k51_whole_told_at_any_size, w, K, mg, base⟩) ⟨says, ex, h, kin, ns⟩ fd Fn
theorem walkW {q : Program} {loose : List Str} {XP : (Str → Option Value) → Heap → Prop} {YP : World → Heap → Prop} {d : DefRec}
    (hdf : d.params.defaults = []) (hd : d.name = "law") (hY : ∀ w h, YP w h → ∃ K : PySem.W.Frag, K.In h ∧ He.SaysD faL fnL K ∧ exU K = true) :
    PySem.W.WalkO q loose XP YP (PySem.Challenge.rw_stoodthen_k51_whole_told_at_any_size).row.toRowW d [] (fun f vs => PySem.call f vs) := by
  refine Att.attach_call (n := 63) rfl hdf fun w sA sB mg mb fa ob pmode cdv docv la lvs lns GG says hob hdd hcod hglob hlist hlints hlong hgone => ?_
  obtain ⟨K, kin, sy, ex⟩ := hY w _ says
  obtain ⟨fd, hbind, hok⟩ := lawAt (w := w) kin GG.T.g (by rw [← hd]; exact hglob) sy ex
  refine law_call kin GG.T.g GG.T.b GG.T.builtins GG.T.nolimit hgone hlist hlints (Nat.le_trans hlong (by decide)) (k := 16) ⟨rfl, by decide, by decide⟩ hok hbind (fun H hO hS => ?_) fun H e s' hx => ?_
  · exact ⟨[.arg K lns], .ok (.bl true), H, ⟨lns, rfl, rfl, Nat.le_trans hlong (by decide)⟩, Ex.refl H, AtL.cons ⟨la, rfl, hS⟩ AtL.nil, fun v H' M' c hv => hv⟩
  · obtain ⟨_, _, _, _, _, _, _, _, _, _, _, _, bad⟩ := hx
    exact bad
end Sd
open PySem PySem.W PySem.Calls PyProof.Rows
theorem PySem.Challenge.cw_stoodthen_k51_whole_told_at_any_size_holds : PySem.Challenge.rw_stoodthen_k51_whole_told_at_any_size.Holds := by
  w_on; o_law
  refine HandSHeadRun.head_any (r := OpenLaw.row PySem.Challenge.rw_stoodthen_k51_whole_told_at_any_size) (q := view (OpenLaw.row PySem.Challenge.rw_stoodthen_k51_whole_told_at_any_size).prog [95]) (H := Sd.hk) (ob := Sd.ob) (M := 9000) (loose := Sd.namesL) (d := HandSHeadRun.topDef (OpenLaw.row PySem.Challenge.rw_stoodthen_k51_whole_told_at_any_size).prog 95) (kwd := []) Sd.ob_eq
    (by kernel_rfl) (fun s => by kernel_rfl) Sd.run (by kernel_rfl) (by kernel_rfl) (by kernel_rfl) (by rfl) (by first | assumption | decide +kernel) (by decide +kernel) ⟨rfl, rfl, rfl, rfl, rfl, by decide +kernel⟩ ?hw ?hc
  case hw => w_witness2
  case hc => exact Sd.walkW (by kernel_rfl) (by kernel_rfl) fun w h z => z
