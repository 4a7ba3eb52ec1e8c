import PyProof.Rows.All
import Wide.All
import OpenK.AllK
import Wide.FinOn
import HandS.ForMost
import HandS.Style
import HandS.IsInst
import HandS.TupAny
import HandS.TupMul
import HandS.Deep
import HandS.Conv
import HandS.Rev
import HandS.RevRange
import HandS.Zip
import HandS.Wide
import HandS.TupLen
import HandS.DictTup
import KE.SortData
import KE.GoesEnum
import KE.GoesMore
import HandS.Flow
import HandS.Defaults
import HandS.Head0
import HandS.Head1
import HandS.Head2
import HandS.HeadEnd
import HandS.HeadHook1
import HandS.HeadHook2
import PySem.Challenge.RW_kindhall_k79_whole_exchange_rows_and_sea
set_option Elab.async false
set_option linter.all false
set_option maxRecDepth 100000
/-! Kd1: plain data, results, the relation between slots and plain values. -/
namespace Kd
open PySem PySem.Spec PyProof.Rows L2

abbrev D := PyData
/-- what an expression gives: a datum that stays as it is; a fresh list; a list that is only looked at; the script; a dict, fresh or looked at -/
inductive R where
  | v (d : D)
  | own (ds : List D)
  | bor (ds : List D)
  | scr (ns : List Int)
  | dic (kvs : List (D × D))
  | bdi (kvs : List (D × D))
abbrev Env := List (Option R)

mutual
inductive Rp (H : Hp) : V → D → Prop
  | non : Rp H .non .none
  | bl (b : Bool) : Rp H (.bl b) (.bool b)
  | int (i : Int) : Rp H (.int i) (.int i)
  | str (x : Str) : Rp H (.str x) (.str x)
  | lst {a : Addr} {xs : List V} {ds : List D} : H a = some (.lst xs) → RpAll H xs ds → Rp H (.ref a) (.list ds)
  | tup {a : Addr} {xs : List V} {ds : List D} : H a = some (.tup xs) → RpAll H xs ds → Rp H (.ref a) (.tuple ds)
inductive RpAll (H : Hp) : List V → List D → Prop
  | nil : RpAll H [] []
  | cons {v : V} {vs : List V} {d : D} {ds : List D} : Rp H v d → RpAll H vs ds → RpAll H (v :: vs) (d :: ds)
end

mutual
theorem Rp.mono {H H' : Hp} (s : Same H H') : ∀ (d : D) (v : V), Rp H v d → Rp H' v d
  | .none, _, h => by cases h; exact .non
  | .bool b, _, h => by cases h; exact .bl b
  | .int i, _, h => by cases h; exact .int i
  | .str x, _, h => by cases h; exact .str x
  | .list ds, _, h => by cases h with | lst e r => exact .lst (s _ _ e) (RpAll.mono s ds _ r)
  | .tuple ds, _, h => by cases h with | tup e r => exact .tup (s _ _ e) (RpAll.mono s ds _ r)
  | .dict _, _, h => by cases h
theorem RpAll.mono {H H' : Hp} (s : Same H H') : ∀ (ds : List D) (vs : List V), RpAll H vs ds → RpAll H' vs ds
  | [], _, h => by cases h; exact .nil
  | d :: ds, _, h => by cases h with | cons a b => exact .cons (Rp.mono s d _ a) (RpAll.mono s ds _ b)
end
theorem RpAll.length {H : Hp} : ∀ {vs : List V} {ds : List D}, RpAll H vs ds → vs.length = ds.length
  | _, _, .nil => rfl
  | _, _, .cons _ t => by simp [RpAll.length t]
theorem RpAll.get {H : Hp} : ∀ {vs : List V} {ds : List D} {i : Nat} {d : D}, RpAll H vs ds → ds[i]? = some d → ∃ v, vs[i]? = some v ∧ Rp H v d
  | _, _, _, _, .nil, e => by simp at e
  | _, _, 0, _, .cons r _, e => by simp at e; subst e; exact ⟨_, rfl, r⟩
  | _, _, i + 1, d, .cons _ t, e => by
    obtain ⟨v, a, b⟩ := RpAll.get (i := i) (d := d) t (by simpa using e)
    exact ⟨v, by simpa using a, b⟩
theorem RpAll.getV {H : Hp} : ∀ {vs : List V} {ds : List D} {i : Nat} {v : V}, RpAll H vs ds → vs[i]? = some v → ∃ d, ds[i]? = some d ∧ Rp H v d
  | _, _, _, _, .nil, e => by simp at e
  | _, _, 0, _, .cons r _, e => by simp at e; subst e; exact ⟨_, rfl, r⟩
  | _, _, i + 1, d, .cons _ t, e => by
    obtain ⟨v, a, b⟩ := RpAll.getV (i := i) (v := d) t (by simpa using e)
    exact ⟨v, by simpa using a, b⟩
theorem RpAll.append {H : Hp} : ∀ {vs ws : List V} {ds es : List D}, RpAll H vs ds → RpAll H ws es → RpAll H (vs ++ ws) (ds ++ es)
  | _, _, _, _, .nil, s => s
  | _, _, _, _, .cons r t, s => .cons r (RpAll.append t s)
theorem RpAll.snoc {H : Hp} {vs : List V} {ds : List D} {v : V} {d : D} (h : RpAll H vs ds) (r : Rp H v d) : RpAll H (vs ++ [v]) (ds ++ [d]) := h.append (.cons r .nil)
theorem RpAll.take {H : Hp} : ∀ (n : Nat) {vs : List V} {ds : List D}, RpAll H vs ds → RpAll H (vs.take n) (ds.take n)
  | 0, _, _, _ => .nil
  | _ + 1, _, _, .nil => .nil
  | n + 1, _, _, .cons r t => .cons r (RpAll.take n t)
theorem RpAll.drop {H : Hp} : ∀ (n : Nat) {vs : List V} {ds : List D}, RpAll H vs ds → RpAll H (vs.drop n) (ds.drop n)
  | 0, _, _, r => r
  | _ + 1, _, _, .nil => .nil
  | n + 1, _, _, .cons _ t => RpAll.drop n t
theorem RpAll.reverse {H : Hp} : ∀ {vs : List V} {ds : List D}, RpAll H vs ds → RpAll H vs.reverse ds.reverse
  | _, _, .nil => .nil
  | _, _, .cons r t => by simp only [List.reverse_cons]; exact (RpAll.reverse t).snoc r
theorem RpAll.set {H : Hp} {v : V} {d : D} (r : Rp H v d) : ∀ {vs : List V} {ds : List D} (i : Nat), RpAll H vs ds → RpAll H (vs.set i v) (ds.set i d)
  | _, _, _, .nil => .nil
  | _, _, 0, .cons _ t => .cons r t
  | _, _, i + 1, .cons q t => .cons q (RpAll.set r i t)
theorem RpAll.eraseIdx {H : Hp} : ∀ {vs : List V} {ds : List D} (i : Nat), RpAll H vs ds → RpAll H (vs.eraseIdx i) (ds.eraseIdx i)
  | _, _, _, .nil => .nil
  | _, _, 0, .cons _ t => t
  | _, _, i + 1, .cons q t => .cons q (RpAll.eraseIdx i t)
theorem RpAll.flatten_rep {H : Hp} {vs : List V} {ds : List D} (h : RpAll H vs ds) : ∀ k : Nat, RpAll H (List.replicate k vs).flatten (List.replicate k ds).flatten
  | 0 => .nil
  | k + 1 => by simp only [List.replicate_succ, List.flatten_cons]; exact h.append (RpAll.flatten_rep h k)
theorem RpAll.ints {H : Hp} : ∀ (ns : List Int), RpAll H (ns.map V.int) (ns.map PyData.int)
  | [] => .nil
  | n :: r => .cons (.int n) (RpAll.ints r)

mutual
theorem Rp.dp {K : PySem.W.Frag} {H : Hp} : ∀ (d : D) (v : V), Rp H v d → Dp K H v d
  | .none, _, h => by cases h; exact .non
  | .bool b, _, h => by cases h; exact .bl b
  | .int i, _, h => by cases h; exact .int i
  | .str x, _, h => by cases h; exact .str x
  | .list ds, _, h => by cases h with | lst e r => exact .lst (SqL.of e) (RpAll.dp ds _ r)
  | .tuple ds, _, h => by cases h with | tup e r => exact .tup (SqT.of e) (RpAll.dp ds _ r)
  | .dict _, _, h => by cases h
theorem RpAll.dp {K : PySem.W.Frag} {H : Hp} : ∀ (ds : List D) (vs : List V), RpAll H vs ds → DpAll K H vs ds
  | [], _, h => by cases h; exact .nil
  | d :: ds, _, h => by cases h with | cons a b => exact .cons (Rp.dp d _ a) (RpAll.dp ds _ b)
end

/-- from (B, He) to (H0, H): all is kept, the still part grows by new things alone -/
structure Ext (B He H0 H : Hp) : Prop where
  keep : Same He H
  base : Same B H0
  sub : Same H0 H
  newb : ∀ a o, H0 a = some o → B a = some o ∨ He a = none
theorem Ext.refl {B He : Hp} (s : Same B He) : Ext B He B He := ⟨Same.refl _, Same.refl _, s, fun _ _ e => .inl e⟩
theorem Ext.trans {B He H0 H H0' H' : Hp} (a : Ext B He H0 H) (b : Ext H0 H H0' H') : Ext B He H0' H' :=
  ⟨a.keep.trans b.keep, a.base.trans b.base, b.sub, fun p o e => by
    rcases b.newb p o e with q | q
    · exact a.newb p o q
    · exact .inr (a.keep.free q)⟩
/-- a new still thing -/
theorem Ext.add {B He H0 H : Hp} (a : Ext B He H0 H) {p : Addr} {o : HO} (hp : H p = none) : Ext B He (upd H0 p o) (upd H p o) := by
  have h0 : H0 p = none := a.sub.free hp
  have he : He p = none := a.keep.free hp
  refine ⟨fun b u e => ?_, fun b u e => ?_, fun b u e => ?_, fun b u e => ?_⟩
  · rw [upd_ne (ne_of_none e he)]; exact a.keep b u e
  · rw [upd_ne (ne_of_none (a.base b u e) h0)]; exact a.base b u e
  · by_cases hb : b = p
    · subst hb; rw [upd_same] at e ⊢; exact e
    · rw [upd_ne hb] at e ⊢; exact a.sub b u e
  · by_cases hb : b = p
    · subst hb; exact .inr he
    · rw [upd_ne hb] at e; exact a.newb b u e
/-- a new thing that is not counted as still -/
theorem Ext.new {B He H0 H : Hp} (a : Ext B He H0 H) {p : Addr} {o : HO} (hp : H p = none) : Ext B He H0 (upd H p o) :=
  ⟨fun b u e => by rw [upd_ne (ne_of_none e (a.keep.free hp))]; exact a.keep b u e, a.base,
   fun b u e => by rw [upd_ne (ne_of_none (a.sub b u e) hp)]; exact a.sub b u e, a.newb⟩
/-- what was made here counts as still from now on -/
theorem Ext.still {B He H0 H : Hp} (a : Ext B He H0 H) {p : Addr} {o : HO} (hp : He p = none) (hq : H p = some o) (h0 : H0 p = none) : Ext B He (upd H0 p o) H := by
  refine ⟨a.keep, fun b u e => ?_, fun b u e => ?_, fun b u e => ?_⟩
  · rw [upd_ne (ne_of_none (a.base b u e) h0)]; exact a.base b u e
  · by_cases hb : b = p
    · subst hb; rw [upd_same] at e; cases e; exact hq
    · rw [upd_ne hb] at e; exact a.sub b u e
  · by_cases hb : b = p
    · subst hb; exact .inr hp
    · rw [upd_ne hb] at e; exact a.newb b u e

/-- a dict's entries: keys are ints, texts, or tuples of such -/
def keyD : Key → D
  | .inl i => .int i
  | .inr x => .str x
def KvR (H0 : Hp) : List (D × D) → List (Key × V) → Prop := Paired fun a b => a.1 = keyD b.1 ∧ Rp H0 b.2 a.2
def KtR (H0 : Hp) : List (D × D) → List (List Key × V) → Prop := Paired fun a b => a.1 = .tuple (b.1.map keyD) ∧ Rp H0 b.2 a.2
def DicR (H0 : Hp) (kvs : List (D × D)) (o : HO) : Prop := (∃ xs, o = .dK xs ∧ KvR H0 kvs xs) ∨ ∃ xs, o = .dT xs ∧ KtR H0 kvs xs

/-- what can be read off a value -/
def View (K : PySem.W.Frag) (H0 H : Hp) (v : V) : R → Prop
  | .v d => Rp H0 v d
  | .own ds => ∃ p vs, v = .ref p ∧ H p = some (.lst vs) ∧ RpAll H0 vs ds
  | .bor ds => ∃ p vs, v = .ref p ∧ H p = some (.lst vs) ∧ RpAll H0 vs ds
  | .scr ns => ∃ p, v = .ref p ∧ SqL K H p (ns.map V.int)
  | .dic kvs => ∃ p o, v = .ref p ∧ H p = some o ∧ DicR H0 kvs o
  | .bdi kvs => ∃ p o, v = .ref p ∧ H p = some o ∧ DicR H0 kvs o
def isOwn : R → Bool
  | .own _ => true
  | .dic _ => true
  | _ => false
/-- nobody else holds it: it was made behind He, and is not counted as still -/
def Fresh (He H0 : Hp) (v : V) (r : R) : Prop := isOwn r = true → ∃ p, v = .ref p ∧ He p = none ∧ H0 p = none
/-- the result of an expression that leads from (B, He) to (H0, H) -/
def Res (K : PySem.W.Frag) (He H0 H : Hp) (v : V) (r : R) : Prop := View K H0 H v r ∧ Fresh He H0 v r
/-- a slot's content: He the heap at the entry -/
def Slot (K : PySem.W.Frag) (He H0 H : Hp) (v : V) (r : R) : Prop := View K H0 H v r ∧ Fresh He H0 v r ∧ (isOwn r = false → View K H0 He v r)

theorem KvR.mono {H H' : Hp} (s : Same H H') {a : List (D × D)} {b : List (Key × V)} (h : KvR H a b) : KvR H' a b := Paired.mapP h fun _ _ z => ⟨z.1, Rp.mono s _ _ z.2⟩
theorem KtR.mono {H H' : Hp} (s : Same H H') {a : List (D × D)} {b : List (List Key × V)} (h : KtR H a b) : KtR H' a b := Paired.mapP h fun _ _ z => ⟨z.1, Rp.mono s _ _ z.2⟩
theorem DicR.mono {H H' : Hp} (s : Same H H') {a : List (D × D)} {o : HO} (h : DicR H a o) : DicR H' a o := by
  rcases h with ⟨xs, e, h⟩ | ⟨xs, e, h⟩
  · exact .inl ⟨xs, e, h.mono s⟩
  · exact .inr ⟨xs, e, h.mono s⟩
theorem View.mono {K : PySem.W.Frag} {H0 H0' H H' : Hp} (s0 : Same H0 H0') (s : Same H H') {v : V} : ∀ {r : R}, View K H0 H v r → View K H0' H' v r
  | .v d, h => Rp.mono s0 d v h
  | .own ds, ⟨p, vs, a, b, c⟩ => ⟨p, vs, a, s _ _ b, RpAll.mono s0 _ _ c⟩
  | .bor ds, ⟨p, vs, a, b, c⟩ => ⟨p, vs, a, s _ _ b, RpAll.mono s0 _ _ c⟩
  | .scr ns, ⟨p, a, b⟩ => ⟨p, a, s.seq b⟩
  | .dic ds, ⟨p, vs, a, b, c⟩ => ⟨p, vs, a, s _ _ b, c.mono s0⟩
  | .bdi ds, ⟨p, vs, a, b, c⟩ => ⟨p, vs, a, s _ _ b, c.mono s0⟩
/-- an own thing stands -/
theorem View.there {K : PySem.W.Frag} {H0 H : Hp} {v : V} {r : R} (h : View K H0 H v r) (o : isOwn r = true) : ∃ p u, v = .ref p ∧ H p = some u := by
  cases r with
  | own ds => obtain ⟨p, vs, a, b, _⟩ := h; exact ⟨p, _, a, b⟩
  | dic ds => obtain ⟨p, vs, a, b, _⟩ := h; exact ⟨p, _, a, b⟩
  | _ => cases o
theorem Fresh.ext {K : PySem.W.Frag} {He H0 H H0' H' : Hp} {v : V} {r : R} (f : Fresh He H0 v r) (w : View K H0 H v r) (x : Ext H0 H H0' H') : Fresh He H0' v r := fun o => by
  obtain ⟨p, e, a, b⟩ := f o
  obtain ⟨q, u, e', hq⟩ := w.there o
  have : p = q := by rw [e] at e'; cases e'; rfl
  subst this
  refine ⟨p, e, a, ?_⟩
  cases h : H0' p with
  | none => rfl
  | some z =>
    rcases x.newb p z h with y | y
    · rw [b] at y; cases y
    · rw [hq] at y; cases y
theorem Res.ext {K : PySem.W.Frag} {He H0 H H0' H' : Hp} {v : V} {r : R} (h : Res K He H0 H v r) (x : Ext H0 H H0' H') : Res K He H0' H' v r := ⟨h.1.mono x.base x.keep, h.2.ext h.1 x⟩
theorem Res.weak {K : PySem.W.Frag} {He He' H0 H : Hp} {v : V} {r : R} (h : Res K He' H0 H v r) (s : Same He He') : Res K He H0 H v r := ⟨h.1, fun o => by
  obtain ⟨p, e, a, b⟩ := h.2 o
  exact ⟨p, e, s.free a, b⟩⟩
theorem Slot.ext {K : PySem.W.Frag} {He H0 H H0' H' : Hp} {v : V} {r : R} (h : Slot K He H0 H v r) (x : Ext H0 H H0' H') : Slot K He H0' H' v r :=
  ⟨h.1.mono x.base x.keep, h.2.1.ext h.1 x, fun o => (h.2.2 o).mono x.base (Same.refl _)⟩

/-- the slots σ hold the values ρ -/
structure Ks (K : PySem.W.Frag) (B He H0 H : Hp) (σ : List (Option V)) (ρ : Env) : Prop where
  ext : Ext B He H0 H
  len : σ.length = ρ.length
  slot : ∀ (i : Nat) (r : R), ρ[i]? = some (some r) → ∃ v, σ[i]? = some (some v) ∧ Slot K He H0 H v r
  dist : ∀ (i j : Nat) (r r' : R) (p : Addr), ρ[i]? = some (some r) → ρ[j]? = some (some r') → isOwn r = true → isOwn r' = true → σ[i]? = some (some (.ref p)) → σ[j]? = some (some (.ref p)) → i = j
theorem Ks.step {K : PySem.W.Frag} {B He H0 H H0' H' : Hp} {σ : List (Option V)} {ρ : Env} (s : Ks K B He H0 H σ ρ) (x : Ext H0 H H0' H') : Ks K B He H0' H' σ ρ :=
  ⟨s.ext.trans x, s.len, fun i r e => by
    obtain ⟨v, a, b⟩ := s.slot i r e
    exact ⟨v, a, b.ext x⟩, s.dist⟩

/-- a fresh list counts as a datum from now on -/
theorem Res.freeze {K : PySem.W.Frag} {B He H0 H : Hp} {v : V} {ds : List D} (h : Res K He H0 H v (.own ds)) (x : Ext B He H0 H) : ∃ H0', Ext B He H0' H ∧ Same H0 H0' ∧ Rp H0' v (.list ds) := by
  obtain ⟨⟨p, vs, e, hp, hr⟩, f⟩ := h
  obtain ⟨q, e', a, b⟩ := f rfl
  have : p = q := by rw [e] at e'; cases e'; rfl
  subst this
  subst e
  have s0 : Same H0 (upd H0 p (.lst vs)) := fun c u z => by rw [upd_ne (ne_of_none z b)]; exact z
  exact ⟨_, x.still a hp b, s0, .lst upd_same (RpAll.mono s0 _ _ hr)⟩
/-- as a datum -/
def toV : R → Option D
  | .v d => some d
  | .own ds => some (.list ds)
  | _ => none
theorem Res.toV {K : PySem.W.Frag} {B He H0 H : Hp} {v : V} {r : R} {d : D} (h : Res K He H0 H v r) (x : Ext B He H0 H) (e : toV r = some d) : ∃ H0', Ext B He H0' H ∧ Same H0 H0' ∧ Rp H0' v d := by
  cases r with
  | v d' => cases e; exact ⟨H0, x, Same.refl _, h.1⟩
  | own ds => cases e; exact h.freeze x
  | _ => cases e

/-! ### the readings -/
def tR (K : PySem.W.Frag) (f : Env → Option R) : TE := fun σ H Q => ∃ B He H0 ρ r, Ks K B He H0 H σ ρ ∧ f ρ = some r ∧ ∀ v H0' H', Ext H0 H H0' H' → Res K H H0' H' v r → Q v H'
def tV (K : PySem.W.Frag) (f : Env → Option D) : TE := fun σ H Q => ∃ B He H0 ρ d, Ks K B He H0 H σ ρ ∧ f ρ = some d ∧ ∀ v H0' H', Ext H0 H H0' H' → Rp H0' v d → Q v H'
def tT (K : PySem.W.Frag) (f : Env → Option Bool) : TT := fun σ H Q => ∃ B He H0 ρ b, Ks K B He H0 H σ ρ ∧ f ρ = some b ∧ ∀ H0' H', Ext H0 H H0' H' → Q b H'
/-- arguments: each a datum, or a list that is looked at -/
def argR : R → R
  | .own ds => .v (.list ds)
  | .dic kvs => .bdi kvs
  | r => r
abbrev AllV (K : PySem.W.Frag) (H0 H : Hp) : List V → List R → Prop := Paired fun v r => View K H0 H v r
def tA (K : PySem.W.Frag) (f : Env → Option (List R)) : TA := fun σ H Q => ∃ B He H0 ρ rs, Ks K B He H0 H σ ρ ∧ f ρ = some rs ∧ ∀ vs H0' H', Ext H0 H H0' H' → AllV K H0' H' vs rs → Q vs H'
theorem AllV.mono {K : PySem.W.Frag} {H0 H0' H H' : Hp} (s0 : Same H0 H0') (s : Same H H') {vs : List V} {rs : List R} (h : AllV K H0 H vs rs) : AllV K H0' H' vs rs := Paired.mapP h fun _ _ z => z.mono s0 s
theorem Res.argR {K : PySem.W.Frag} {B He H0 H : Hp} {v : V} {r : R} (h : Res K He H0 H v r) (x : Ext B He H0 H) : ∃ H0', Ext B He H0' H ∧ Same H0 H0' ∧ View K H0' H v (argR r) := by
  cases r with
  | own ds => exact h.freeze x
  | dic ds => exact ⟨H0, x, Same.refl _, h.1⟩
  | v d => exact ⟨H0, x, Same.refl _, h.1⟩
  | bor d => exact ⟨H0, x, Same.refl _, h.1⟩
  | scr d => exact ⟨H0, x, Same.refl _, h.1⟩
  | bdi d => exact ⟨H0, x, Same.refl _, h.1⟩

section
variable {X : Cx} {e : Expr} {es : List Expr}
theorem PE.imp {t t' : TE} (h : PE X e t) (i : ∀ σ H Q, t' σ H Q → t σ H Q) : PE X e t' := ⟨fun pins s σ H Q I q => h.run pins s σ H Q I (i σ H Q q)⟩
theorem PE.impI {t t' : TE} (h : PE X e t) (i : ∀ (pins : List (Addr × Obj)) (σ : L2.St) (H : Hp) (s : Shared) (Q : VK), Inv X pins σ H s → t' σ H Q → t σ H Q) : PE X e t' := ⟨fun pins s σ H Q I q => h.run pins s σ H Q I (i pins σ H s Q I q)⟩
theorem PT.imp {t t' : TT} (h : PT X e t) (i : ∀ σ H Q, t' σ H Q → t σ H Q) : PT X e t' := ⟨fun pins s σ H Q I q => h.run pins s σ H Q I (i σ H Q q)⟩
theorem PA.imp {t t' : TA} (h : PA X es t) (i : ∀ σ H Q, t' σ H Q → t σ H Q) : PA X es t' := ⟨fun pos pins s σ H Q I q => h.run pos pins s σ H Q I (i σ H Q q)⟩
/-- the same by an equal plain value -/
theorem PE.fn {f g : Env → Option R} (h : PE X e (tR X.K f)) (i : ∀ ρ r, g ρ = some r → f ρ = some r) : PE X e (tR X.K g) := PE.imp h fun σ H Q ⟨B, He, H0, ρ, r, s, q, k⟩ => ⟨B, He, H0, ρ, r, s, i _ _ q, k⟩
theorem PE.toV {f : Env → Option R} (h : PE X e (tR X.K f)) : PE X e (tV X.K fun ρ => (f ρ).bind toV) := PE.imp h fun σ H Q ⟨B, He, H0, ρ, d, s, q, k⟩ => by
  obtain ⟨r, e1, e2⟩ := Option.bind_eq_some_iff.mp q
  refine ⟨B, He, H0, ρ, r, s, e1, fun v H0' H' x w => ?_⟩
  obtain ⟨H0'', x', _, z⟩ := w.toV x e2
  exact k v H0'' H' x' z
theorem PE.ofV {f : Env → Option D} (h : PE X e (tV X.K f)) : PE X e (tR X.K fun ρ => (f ρ).map .v) := PE.imp h fun σ H Q ⟨B, He, H0, ρ, r, s, q, k⟩ => by
  obtain ⟨d, e1, e2⟩ := Option.map_eq_some_iff.mp q
  subst e2
  exact ⟨B, He, H0, ρ, d, s, e1, fun v H0' H' x w => k v H0' H' x ⟨w, fun o => by cases o⟩⟩
end

/-! ### operators by value -/
/-- a binary operation on results -/
def rOp (K : PySem.W.Frag) (g : R → R → Option R) : R2 := fun x y H Q => ∃ H0 r1 r2 r, Same H0 H ∧ View K H0 H x r1 ∧ View K H0 H y r2 ∧ g r1 r2 = some r ∧ ∀ v H0' H', Ext H0 H H0' H' → Res K H H0' H' v r → Q v H'
def rUn (K : PySem.W.Frag) (g : R → Option R) : V → Hp → VK → Prop := fun x H Q => ∃ H0 r1 r, Same H0 H ∧ View K H0 H x r1 ∧ g r1 = some r ∧ ∀ v H0' H', Ext H0 H H0' H' → Res K H H0' H' v r → Q v H'
/-- a call on results -/
def rCa (K : PySem.W.Frag) (g : List R → Option R) : List V → Hp → VK → Prop := fun xs H Q => ∃ H0 rs r, Same H0 H ∧ AllV K H0 H xs rs ∧ g rs = some r ∧ ∀ v H0' H', Ext H0 H H0' H' → Res K H H0' H' v r → Q v H'
def bind2 (fa fb : Env → Option R) (g : R → R → Option R) : Env → Option R := fun ρ => (fa ρ).bind fun a => (fb ρ).bind fun b => g a b
section
variable {K : PySem.W.Frag} {fa fb : Env → Option R}
theorem tOp_of {g : R → R → Option R} {σ : L2.St} {H : Hp} {Q : VK} (h : tR K (bind2 fa fb g) σ H Q) : tOp (rOp K g) (tR K fa) (tR K fb) σ H Q := by
  obtain ⟨B, He, H0, ρ, r, s, q, k⟩ := h
  obtain ⟨r1, e1, q⟩ := Option.bind_eq_some_iff.mp q
  obtain ⟨r2, e2, q⟩ := Option.bind_eq_some_iff.mp q
  refine ⟨B, He, H0, ρ, r1, s, e1, fun v1 H01 H1 x1 w1 => ?_⟩
  refine ⟨B, He, H01, ρ, r2, s.step x1, e2, fun v2 H02 H2 x2 w2 => ?_⟩
  exact ⟨H02, r1, r2, r, x2.sub, w1.1.mono x2.base x2.keep, w2.1, q, fun v H0' H' x w => k v H0' H' (x1.trans (x2.trans x)) (w.weak (x1.keep.trans x2.keep))⟩
theorem tUn_of {g : R → Option R} {σ : L2.St} {H : Hp} {Q : VK} (h : tR K (fun ρ => (fa ρ).bind g) σ H Q) : tUn (rUn K g) (tR K fa) σ H Q := by
  obtain ⟨B, He, H0, ρ, r, s, q, k⟩ := h
  obtain ⟨r1, e1, q⟩ := Option.bind_eq_some_iff.mp q
  refine ⟨B, He, H0, ρ, r1, s, e1, fun v1 H01 H1 x1 w1 => ?_⟩
  exact ⟨H01, r1, r, x1.sub, w1.1, q, fun v H0' H' x w => k v H0' H' (x1.trans x) (w.weak x1.keep)⟩
theorem tCB_of {fa : Env → Option (List R)} {g : List R → Option R} {σ : L2.St} {H : Hp} {Q : VK} (h : tR K (fun ρ => (fa ρ).bind g) σ H Q) : tCB (rCa K g) (tA K fa) σ H Q := by
  obtain ⟨B, He, H0, ρ, r, s, q, k⟩ := h
  obtain ⟨r1, e1, q⟩ := Option.bind_eq_some_iff.mp q
  refine ⟨B, He, H0, ρ, r1, s, e1, fun v1 H01 H1 x1 w1 => ?_⟩
  exact ⟨H01, r1, r, x1.sub, w1, q, fun v H0' H' x w => k v H0' H' (x1.trans x) (w.weak x1.keep)⟩
end
section
variable {X : Cx} {a b : Expr} {es : List Expr} {pos : Pos} {fa fb : Env → Option R}
theorem pr_op {op : Operator} {g : R → R → Option R} (ho : OpR X (binaryOp op) (rOp X.K g)) (ha : PE X a (tR X.K fa)) (hb : PE X b (tR X.K fb)) : PE X (.BinOp a op b pos) (tR X.K (bind2 fa fb g)) := PE.imp (pe_op ho ha hb) fun _ _ _ h => tOp_of h
theorem pr_cmp {op : CmpOp} {g : R → R → Option R} (ho : OpR X (compareOp op) (rOp X.K g)) (ha : PE X a (tR X.K fa)) (hb : PE X b (tR X.K fb)) (hm : behindInMarks op b = false) : PE X (.Compare a [op] [b] pos) (tR X.K (bind2 fa fb g)) := PE.imp (pe_cmpR ho ha hb hm) fun _ _ _ h => tOp_of h
theorem pr_un {op : UnaryOp} {g : R → Option R} (ho : UnR X (unaryOp op) (rUn X.K g)) (ha : PE X a (tR X.K fa)) : PE X (.UnaryOp op a pos) (tR X.K fun ρ => (fa ρ).bind g) := PE.imp (pe_un ho ha) fun _ _ _ h => tUn_of h
/-- arguments -/
theorem pr_nil : PA X [] (tA X.K fun _ => some []) := PA.imp pa_nil fun σ H Q ⟨B, He, H0, ρ, r, s, q, k⟩ => by
  cases q
  exact k [] H0 H (Ext.refl s.ext.sub) .nil
theorem pr_cons {fs : Env → Option (List R)} (ha : PE X a (tR X.K fa)) (hs : PA X es (tA X.K fs)) (hst : starEach (a :: es) X.env = (false, eval a X.env) :: starEach es X.env) :
    PA X (a :: es) (tA X.K fun ρ => (fa ρ).bind fun r => (fs ρ).bind fun rs => some (argR r :: rs)) := PA.imp (pa_cons ha hs hst) fun σ H Q ⟨B, He, H0, ρ, rs, s, q, k⟩ => by
  obtain ⟨r1, e1, q⟩ := Option.bind_eq_some_iff.mp q
  obtain ⟨r2, e2, q⟩ := Option.bind_eq_some_iff.mp q
  cases q
  refine ⟨B, He, H0, ρ, r1, s, e1, fun v1 H01 H1 x1 w1 => ?_⟩
  obtain ⟨H01', x1', s1, w1'⟩ := w1.argR x1
  refine ⟨B, He, H01', ρ, r2, s.step x1', e2, fun v2 H02 H2 x2 w2 => ?_⟩
  exact k _ H02 H2 (x1'.trans x2) (.cons (w1'.mono x2.base x2.keep) w2)
end
end Kd

/-! Kd2: operators on results, and that the machine does the same. -/
namespace Kd
open PySem PySem.Spec PyProof.Rows L2

abbrev I (n : Int) : R := .v (.int n)
abbrev Bl (b : Bool) : R := .v (.bool b)
abbrev Non : R := .v .none
/-- a sequence: is it a tuple, its items -/
def toSeq : R → Option (Bool × List D)
  | .v (.tuple ds) => some (true, ds)
  | .v (.list ds) => some (false, ds)
  | .own ds => some (false, ds)
  | .bor ds => some (false, ds)
  | _ => none
def toInt : R → Option Int
  | .v (.int n) => some n
  | _ => none
def toData : R → Option D
  | .v d => some d
  | .own ds => some (.list ds)
  | .bor ds => some (.list ds)
  | _ => none
def seqO (b : Bool) (vs : List V) : HO := if b then .tup vs else .lst vs
theorem toSeq_true {r : R} {ds : List D} (e : toSeq r = some (true, ds)) : r = .v (.tuple ds) := by
  cases r with
  | v d => cases d <;> cases e <;> rfl
  | _ => cases e
section
variable {K : PySem.W.Frag} {H0 H : Hp} {v : V} {r : R}
theorem View.seq (sub : Same H0 H) (w : View K H0 H v r) {b : Bool} {ds : List D} (e : toSeq r = some (b, ds)) : ∃ p vs, v = .ref p ∧ H p = some (seqO b vs) ∧ RpAll H0 vs ds := by
  cases r with
  | v d =>
    cases d with
    | tuple xs => cases e; cases w with | tup h q => exact ⟨_, _, rfl, sub _ _ h, q⟩
    | list xs => cases e; cases w with | lst h q => exact ⟨_, _, rfl, sub _ _ h, q⟩
    | _ => cases e
  | own xs => cases e; exact w
  | bor xs => cases e; exact w
  | _ => cases e
theorem View.toInt (w : View K H0 H v r) {n : Int} (e : toInt r = some n) : v = .int n := by
  cases r with
  | v d =>
    cases d with
    | int xs => cases e; cases w; rfl
    | _ => cases e
  | _ => cases e
theorem View.dp (sub : Same H0 H) (w : View K H0 H v r) {d : D} (e : toData r = some d) : Dp K H v d := by
  cases r with
  | v d' => cases e; exact Rp.dp _ _ (Rp.mono sub _ _ w)
  | own xs => cases e; obtain ⟨p, vs, rfl, h, q⟩ := w; exact .lst (SqL.of h) (RpAll.dp _ _ (RpAll.mono sub _ _ q))
  | bor xs => cases e; obtain ⟨p, vs, rfl, h, q⟩ := w; exact .lst (SqL.of h) (RpAll.dp _ _ (RpAll.mono sub _ _ q))
  | _ => cases e
variable {Q : VK}
theorem give_v {d : D} (sub : Same H0 H) (k : ∀ v H0' H', Ext H0 H H0' H' → Res K H H0' H' v (.v d) → Q v H') {v : V} (r : Rp H0 v d) : Q v H :=
  k v H0 H (Ext.refl sub) ⟨r, fun o => by cases o⟩
theorem give_tup {ds : List D} {vs : List V} (sub : Same H0 H) (rs : RpAll H0 vs ds) (k : ∀ v H0' H', Ext H0 H H0' H' → Res K H H0' H' v (.v (.tuple ds)) → Q v H') : ∀ p, H p = none → Q (.ref p) (upd H p (.tup vs)) := fun p hp => by
  have x := (Ext.refl sub).add (o := .tup vs) hp
  exact k _ _ _ x ⟨.tup upd_same (RpAll.mono x.base _ _ rs), fun o => by cases o⟩
theorem give_lst {ds : List D} {vs : List V} (sub : Same H0 H) (rs : RpAll H0 vs ds) (k : ∀ v H0' H', Ext H0 H H0' H' → Res K H H0' H' v (.own ds) → Q v H') : ∀ p, H p = none → Q (.ref p) (upd H p (.lst vs)) := fun p hp => by
  have x := (Ext.refl sub).new (o := .lst vs) hp
  exact k _ _ _ x ⟨⟨p, vs, rfl, upd_same, rs⟩, fun _ => ⟨p, rfl, hp, sub.free hp⟩⟩
end

/-! ### arithmetic -/
def catS : Bool × List D → Bool × List D → Option R
  | (true, a), (true, b) => if a.length + b.length ≤ sizeLine then some (.v (.tuple (a ++ b))) else none
  | (false, a), (false, b) => if a.length + b.length ≤ sizeLine then some (.own (a ++ b)) else none
  | _, _ => none
def addR (x y : R) : Option R :=
  match toInt x, toInt y with
  | some a, some b => some (I (a + b))
  | _, _ => (toSeq x).bind fun a => (toSeq y).bind fun b => catS a b
def subR (x y : R) : Option R := (toInt x).bind fun a => (toInt y).bind fun b => some (I (a - b))
instance (i j : Int) : Decidable (CMul i j) := by unfold CMul; infer_instance
instance (i j : Int) : Decidable (CDivW i j) := by unfold CDivW; infer_instance
instance (i j : Int) : Decidable (CPow i j) := by unfold CPow; infer_instance
def mulR (x y : R) : Option R :=
  match toInt y with
  | some b => match toInt x with
    | some a => if CMul a b then some (I (a * b)) else none
    | none => (toSeq x).bind fun s => match s with
      | (false, ds) => if -(2 ^ 63) ≤ b ∧ b < 2 ^ 63 ∧ ds.length * b.toNat ≤ sizeLine then some (.own (List.replicate b.toNat ds).flatten) else none
      | (true, ds) => if ds ≠ [] ∧ 2 ≤ b ∧ b ≤ 1000 ∧ ds.length ≤ 1000 then some (.v (.tuple (List.replicate b.toNat ds).flatten)) else none
  | none => none
def divR (x y : R) : Option R := (toInt x).bind fun a => (toInt y).bind fun b => if CDivW a b then some (I (a / b)) else none
def modR (x y : R) : Option R := (toInt x).bind fun a => (toInt y).bind fun b => if 0 < b then some (I (a % b)) else none
def powR (x y : R) : Option R := (toInt x).bind fun a => (toInt y).bind fun b => if CPow a b then some (I (a ^ b.toNat)) else none
def binR : Operator → R → R → Option R
  | .Add => addR
  | .Sub => subR
  | .Mult => mulR
  | .FloorDiv => divR
  | .Mod => modR
  | .Pow => powR
  | _ => fun _ _ => none
section
variable {X : Cx}
theorem op_of {f : Value → Value → Sem Value} {C : Int → Int → Prop} {g : Int → Int → Int} {h : R → R → Option R} (o : OpR X f (rI C fun i j => .int (g i j)))
    (e : ∀ x y r, h x y = some r → ∃ a b, toInt x = some a ∧ toInt y = some b ∧ C a b ∧ r = I (g a b)) : OpR X f (rOp X.K h) := by
  intro pins s σ H x y v u Q I rx ry q
  obtain ⟨H0, r1, r2, r, sub, w1, w2, q, k⟩ := q
  obtain ⟨a, b, e1, e2, c, rfl⟩ := e _ _ _ q
  exact o pins s σ H x y v u Q I rx ry ⟨a, b, w1.toInt e1, w2.toInt e2, c, give_v sub k (.int _)⟩
theorem ok_add : OpR X (binaryOp .Add) (rOp X.K addR) := by
  intro pins s σ H x y v u Q I rx ry q
  obtain ⟨H0, r1, r2, r, sub, w1, w2, q, k⟩ := q
  unfold addR at q
  split at q
  · rename_i a b e1 e2
    cases q
    exact op_add pins s σ H x y v u Q I rx ry ⟨a, b, w1.toInt e1, w2.toInt e2, give_v sub k (.int _)⟩
  · obtain ⟨⟨b1, ds1⟩, e1, q⟩ := Option.bind_eq_some_iff.mp q
    obtain ⟨⟨b2, ds2⟩, e2, q⟩ := Option.bind_eq_some_iff.mp q
    obtain ⟨p1, vs1, rfl, h1, q1⟩ := w1.seq sub e1
    obtain ⟨p2, vs2, rfl, h2, q2⟩ := w2.seq sub e2
    have l1 := q1.length
    have l2 := q2.length
    cases b1 <;> cases b2 <;> simp only [catS] at q <;> try (cases q)
    · split at q
      · rename_i hl
        cases q
        exact op_cat pins s σ H _ _ v u Q I rx ry ⟨p1, p2, vs1, vs2, rfl, rfl, h1, h2, by omega, give_lst sub (q1.append q2) k⟩
      · cases q
    · split at q
      · rename_i hl
        cases q
        have t1 := toSeq_true e1
        have t2 := toSeq_true e2
        subst t1 t2
        refine op_catA pins s σ H _ _ v u Q I rx ry ⟨p1, p2, vs1, vs2, rfl, rfl, SqT.of h1, SqT.of h2, by omega, fun e => ?_, fun _ e => ?_, fun _ _ => give_tup sub (q1.append q2) k⟩
        · subst e
          cases q1
          exact give_v sub k w2
        · subst e
          cases q2
          rw [List.append_nil] at k
          exact give_v sub k w1
      · cases q
theorem ok_sub : OpR X (binaryOp .Sub) (rOp X.K subR) := by
  intro pins s σ H x y v u Q I rx ry q
  obtain ⟨H0, r1, r2, r, sub, w1, w2, q, k⟩ := q
  obtain ⟨a, e1, q⟩ := Option.bind_eq_some_iff.mp q
  obtain ⟨b, e2, q⟩ := Option.bind_eq_some_iff.mp q
  cases q
  exact op_sub pins s σ H x y v u Q I rx ry ⟨a, b, w1.toInt e1, w2.toInt e2, give_v sub k (.int _)⟩
theorem ok_div : OpR X (binaryOp .FloorDiv) (rOp X.K divR) := op_of op_fdivW fun x y r h => by
  obtain ⟨a, e1, h⟩ := Option.bind_eq_some_iff.mp h
  obtain ⟨b, e2, h⟩ := Option.bind_eq_some_iff.mp h
  split at h
  · cases h; exact ⟨a, b, e1, e2, by assumption, rfl⟩
  · cases h
theorem ok_mod : OpR X (binaryOp .Mod) (rOp X.K modR) := op_of op_mod fun x y r h => by
  obtain ⟨a, e1, h⟩ := Option.bind_eq_some_iff.mp h
  obtain ⟨b, e2, h⟩ := Option.bind_eq_some_iff.mp h
  split at h
  · cases h; exact ⟨a, b, e1, e2, by assumption, rfl⟩
  · cases h
theorem ok_pow : OpR X (binaryOp .Pow) (rOp X.K powR) := op_of op_pow fun x y r h => by
  obtain ⟨a, e1, h⟩ := Option.bind_eq_some_iff.mp h
  obtain ⟨b, e2, h⟩ := Option.bind_eq_some_iff.mp h
  split at h
  · cases h; exact ⟨a, b, e1, e2, by assumption, rfl⟩
  · cases h
theorem ok_mul : OpR X (binaryOp .Mult) (rOp X.K mulR) := by
  intro pins s σ H x y v u Q I rx ry q
  obtain ⟨H0, r1, r2, r, sub, w1, w2, q, k⟩ := q
  unfold mulR at q
  split at q
  · rename_i b e2
    split at q
    · rename_i a e1
      split at q
      · cases q
        exact op_mul pins s σ H x y v u Q I rx ry ⟨a, b, w1.toInt e1, w2.toInt e2, by assumption, give_v sub k (.int _)⟩
      · cases q
    · obtain ⟨⟨t, ds⟩, e1, q⟩ := Option.bind_eq_some_iff.mp q
      obtain ⟨p1, vs1, rfl, h1, q1⟩ := w1.seq sub e1
      have l1 := q1.length
      have ey := w2.toInt e2
      subst ey
      cases t <;> simp only at q
      · split at q
        · rename_i c
          cases q
          exact op_rep pins s σ H _ _ v u Q I rx ry ⟨p1, b, vs1, rfl, rfl, h1, c.1, c.2.1, by rw [l1]; exact c.2.2, give_lst sub (q1.flatten_rep _) k⟩
        · cases q
      · split at q
        · rename_i c
          cases q
          have ne : vs1 ≠ [] := fun z => by subst z; cases q1; exact c.1 rfl
          exact op_repT pins s σ H _ _ v u Q I rx ry ⟨p1, b, vs1, rfl, rfl, SqT.of h1, ne, c.2.1, c.2.2.1, by omega, give_tup sub (q1.flatten_rep _) k⟩
        · cases q
  · cases q
theorem ok_bin (op : Operator) : OpR X (binaryOp op) (rOp X.K (binR op)) := by
  have no : ∀ op, OpR X (binaryOp op) (rOp X.K fun _ _ => none) := fun op pins s σ H x y v u Q I rx ry q => by
    obtain ⟨H0, r1, r2, r, sub, w1, w2, q, k⟩ := q
    cases q
  cases op <;> first | exact ok_add | exact ok_sub | exact ok_mul | exact ok_div | exact ok_mod | exact ok_pow | exact no _
end

/-! ### comparisons -/
def shD (d : D) : Bool := SeqAt.shaped d
def eqR (x y : R) : Option R := (toData x).bind fun a => (toData y).bind fun b => if shD a = true ∧ shD b = true then some (Bl (PyData.eqv a b)) else none
def neR (x y : R) : Option R := (toData x).bind fun a => (toData y).bind fun b => if shD a = true ∧ shD b = true then some (Bl (!PyData.eqv a b)) else none
def cmpI (p : Int → Int → Bool) (x y : R) : Option R := (toInt x).bind fun a => (toInt y).bind fun b => some (Bl (p a b))
def isNone : R → Bool
  | .v .none => true
  | _ => false
def isR (x y : R) : Option R := if isNone y = true then some (Bl (isNone x)) else none
def isnR (x y : R) : Option R := if isNone y = true then some (Bl (!isNone x)) else none
def hasD (d : D) (ds : List D) : Bool := ds.any fun z => PyData.eqv z d
def inR (x y : R) : Option R := (toData x).bind fun d => (toSeq y).bind fun s => if shD d = true ∧ shD (.list s.2) = true then some (Bl (hasD d s.2)) else none
def ninR (x y : R) : Option R := (toData x).bind fun d => (toSeq y).bind fun s => if shD d = true ∧ shD (.list s.2) = true then some (Bl (!hasD d s.2)) else none
def cmpR : CmpOp → R → R → Option R
  | .Eq => eqR
  | .NotEq => neR
  | .Lt => cmpI fun a b => decide (a < b)
  | .LtE => cmpI fun a b => decide (a ≤ b)
  | .Gt => cmpI fun a b => decide (b < a)
  | .GtE => cmpI fun a b => decide (b ≤ a)
  | .Is => isR
  | .IsNot => isnR
  | .In => inR
  | .NotIn => ninR
section
variable {X : Cx}
theorem ok_eq (hu : X.A.units + 65 < cLine) : OpR X (compareOp .Eq) (rOp X.K eqR) := by
  intro pins s σ H x y v u Q I rx ry q
  obtain ⟨H0, r1, r2, r, sub, w1, w2, q, k⟩ := q
  obtain ⟨a, e1, q⟩ := Option.bind_eq_some_iff.mp q
  obtain ⟨b, e2, q⟩ := Option.bind_eq_some_iff.mp q
  split at q
  · rename_i c
    cases q
    exact op_eqD (by omega) pins s σ H x y v u Q I rx ry ⟨a, b, w1.dp sub e1, w2.dp sub e2, c.1, c.2, give_v sub k (.bl _)⟩
  · cases q
theorem ok_ne (hu : X.A.units + 65 < cLine) : OpR X (compareOp .NotEq) (rOp X.K neR) := by
  intro pins s σ H x y v u Q I rx ry q
  obtain ⟨H0, r1, r2, r, sub, w1, w2, q, k⟩ := q
  obtain ⟨a, e1, q⟩ := Option.bind_eq_some_iff.mp q
  obtain ⟨b, e2, q⟩ := Option.bind_eq_some_iff.mp q
  split at q
  · rename_i c
    cases q
    exact op_neD (by omega) pins s σ H x y v u Q I rx ry ⟨a, b, w1.dp sub e1, w2.dp sub e2, c.1, c.2, give_v sub k (.bl _)⟩
  · cases q
theorem ok_cmpI {op : CmpOp} {p : Int → Int → Bool} (o : OpR X (compareOp op) (rI0 fun i j => .bl (p i j))) : OpR X (compareOp op) (rOp X.K (cmpI p)) := by
  intro pins s σ H x y v u Q I rx ry q
  obtain ⟨H0, r1, r2, r, sub, w1, w2, q, k⟩ := q
  obtain ⟨a, e1, q⟩ := Option.bind_eq_some_iff.mp q
  obtain ⟨b, e2, q⟩ := Option.bind_eq_some_iff.mp q
  cases q
  exact o pins s σ H x y v u Q I rx ry ⟨a, b, w1.toInt e1, w2.toInt e2, give_v sub k (.bl _)⟩
theorem isNone_iff {K : PySem.W.Frag} {H0 H : Hp} {v : V} {r : R} (w : View K H0 H v r) : decide (v = .non) = isNone r := by
  cases r with
  | v d => cases d <;> cases w <;> simp [isNone]
  | own xs => obtain ⟨p, vs, rfl, h, q⟩ := w; simp [isNone]
  | bor xs => obtain ⟨p, vs, rfl, h, q⟩ := w; simp [isNone]
  | scr xs => obtain ⟨p, rfl, h⟩ := w; simp [isNone]
  | dic xs => obtain ⟨p, vs, rfl, h, q⟩ := w; simp [isNone]
  | bdi xs => obtain ⟨p, vs, rfl, h, q⟩ := w; simp [isNone]
theorem ok_is : OpR X (compareOp .Is) (rOp X.K isR) := by
  intro pins s σ H x y v u Q I rx ry q
  obtain ⟨H0, r1, r2, r, sub, w1, w2, q, k⟩ := q
  unfold isR at q
  split at q
  · rename_i c
    cases q
    refine op_isN pins s σ H x y v u Q I rx ry ⟨of_decide_eq_true ((isNone_iff w2).trans c), ?_⟩
    rw [isNone_iff w1]
    exact give_v sub k (.bl _)
  · cases q
theorem ok_isn : OpR X (compareOp .IsNot) (rOp X.K isnR) := by
  intro pins s σ H x y v u Q I rx ry q
  obtain ⟨H0, r1, r2, r, sub, w1, w2, q, k⟩ := q
  unfold isnR at q
  split at q
  · rename_i c
    cases q
    refine op_notN pins s σ H x y v u Q I rx ry ⟨of_decide_eq_true ((isNone_iff w2).trans c), ?_⟩
    rw [isNone_iff w1]
    exact give_v sub k (.bl _)
  · cases q
theorem shaped_seq {ds : List D} : SeqAt.shaped (.list ds) = SeqAt.shaped (.tuple ds) := by simp [SeqAt.shaped, PyData.canLay0, PyData.depth]
theorem ok_inG (hu : X.A.units + 65 < cLine) (neg : Bool) {op : CmpOp} (ho : op = if neg then .NotIn else .In) : OpR X (compareOp op) (rOp X.K (if neg then ninR else inR)) := by
  intro pins s σ H x y v u Q I rx ry q
  obtain ⟨H0, r1, r2, r, sub, w1, w2, q, k⟩ := q
  have q' : ((toData r1).bind fun d => (toSeq r2).bind fun s => if shD d = true ∧ shD (.list s.2) = true then some (Bl (if neg then !hasD d s.2 else hasD d s.2)) else none) = some r := by
    cases neg <;> exact q
  obtain ⟨d, e1, q'⟩ := Option.bind_eq_some_iff.mp q'
  obtain ⟨⟨t, ds⟩, e2, q'⟩ := Option.bind_eq_some_iff.mp q'
  split at q'
  · rename_i c
    cases q'
    obtain ⟨p1, vs1, rfl, h1, q1⟩ := w2.seq sub e2
    obtain ⟨as, d1⟩ := Dp.reads I d x v (w1.dp sub e1) rx
    have qs := RpAll.dp (K := X.K) _ _ (RpAll.mono sub _ _ q1)
    have fin := give_v sub k (.bl _)
    cases t with
    | false =>
      obtain ⟨bs, d2⟩ := Dp.reads I (.list ds) _ u (.lst (SqL.of h1) qs) ry
      cases neg with
      | false => subst ho; exact SeqAt.in_list_reads d2 d1 (SeqAt.canLay_of_shaped c.2) (SeqAt.canLay_of_shaped c.1) (room_in_shaped c.1 hu) ⟨.bl _, H, I, rfl, fin⟩
      | true => subst ho; exact SeqAt.notIn_list_reads d2 d1 (SeqAt.canLay_of_shaped c.2) (SeqAt.canLay_of_shaped c.1) (room_in_shaped c.1 hu) ⟨.bl _, H, I, rfl, fin⟩
    | true =>
      obtain ⟨bs, d2⟩ := Dp.reads I (.tuple ds) _ u (.tup (SqT.of h1) qs) ry
      have c2 : SeqAt.shaped (.tuple ds) = true := by rw [← shaped_seq]; exact c.2
      cases neg with
      | false => subst ho; exact SeqAt.in_tuple_reads d2 d1 (SeqAt.canLay_of_shaped c2) (SeqAt.canLay_of_shaped c.1) (room_in_shaped c.1 hu) ⟨.bl _, H, I, rfl, fin⟩
      | true => subst ho; exact SeqAt.notIn_tuple_reads d2 d1 (SeqAt.canLay_of_shaped c2) (SeqAt.canLay_of_shaped c.1) (room_in_shaped c.1 hu) ⟨.bl _, H, I, rfl, fin⟩
  · cases q'
theorem ok_cmp (hu : X.A.units + 65 < cLine) (op : CmpOp) : OpR X (compareOp op) (rOp X.K (cmpR op)) := by
  cases op with
  | Eq => exact ok_eq hu
  | NotEq => exact ok_ne hu
  | Lt => exact ok_cmpI op_lt
  | LtE => exact ok_cmpI op_le
  | Gt => exact ok_cmpI op_gt
  | GtE => exact ok_cmpI op_ge
  | Is => exact ok_is
  | IsNot => exact ok_isn
  | In => exact ok_inG hu false rfl
  | NotIn => exact ok_inG hu true rfl
end

/-! ### truth, not, minus -/
def truR : R → Option Bool
  | .v .none => some false
  | .v (.bool b) => some b
  | .v (.int n) => some (n != 0)
  | .v (.tuple ds) => some (!ds.isEmpty)
  | .v (.list ds) => some (!ds.isEmpty)
  | .own ds => some (!ds.isEmpty)
  | .bor ds => some (!ds.isEmpty)
  | _ => none
theorem RpAll.isEmpty {H : Hp} {vs : List V} {ds : List D} (h : RpAll H vs ds) : vs.isEmpty = ds.isEmpty := by cases h <;> rfl
theorem View.tru {K : PySem.W.Frag} {H0 H : Hp} {v : V} {r : R} (sub : Same H0 H) (w : View K H0 H v r) {b : Bool} (e : truR r = some b) : TruV K v H b := by
  have sq : ∀ t ds, toSeq r = some (t, ds) → b = !ds.isEmpty → TruV K v H b := fun t ds e1 e2 => by
    obtain ⟨p1, vs1, rfl, h1, q1⟩ := w.seq sub e1
    subst e2
    rw [← q1.isEmpty]
    cases t with
    | false => exact .inl ⟨vs1, SqL.of h1, rfl⟩
    | true => exact .inr (.inl ⟨vs1, SqT.of h1, rfl⟩)
  cases r with
  | v d =>
    cases d with
    | none => cases e; cases w; exact rfl
    | bool z => cases e; cases w; exact rfl
    | int z => cases e; cases w; exact rfl
    | tuple z => cases e; exact sq _ _ rfl rfl
    | list z => cases e; exact sq _ _ rfl rfl
    | _ => cases e
  | own z => cases e; exact sq _ _ rfl rfl
  | bor z => cases e; exact sq _ _ rfl rfl
  | _ => cases e
def negR (x : R) : Option R := (toInt x).bind fun a => some (I (-a))
section
variable {X : Cx}
theorem ok_neg : UnR X (unaryOp .USub) (rUn X.K negR) := by
  intro pins s σ H x v Q I rx q
  obtain ⟨H0, r1, r, sub, w1, q, k⟩ := q
  obtain ⟨a, e1, q⟩ := Option.bind_eq_some_iff.mp q
  cases q
  exact un_neg pins s σ H x v Q I rx ⟨a, w1.toInt e1, give_v sub k (.int _)⟩
end
end Kd

/-! Kd3: items, slices, displays, built-in calls, by value. -/
namespace Kd
open PySem PySem.Spec PyProof.Rows L2

/-! ### items -/
def ixR (x y : R) : Option R := (toInt y).bind fun i =>
  match x with
  | .scr ns => (atI ns i).map I
  | x => (toSeq x).bind fun s => (atI s.2 i).map .v
theorem atI_map {α β : Type} (f : α → β) (xs : List α) (i : Int) : atI (xs.map f) i = (atI xs i).map f := by
  unfold atI
  rw [List.length_map]
  cases h : ixN xs.length i with
  | none => rfl
  | some j => simp
theorem RpAll.atI {H : Hp} {vs : List V} {ds : List D} (h : RpAll H vs ds) {i : Int} {d : D} (e : atI ds i = some d) : ∃ v, L2.atI vs i = some v ∧ Rp H v d := by
  unfold L2.atI at e ⊢
  rw [h.length]
  obtain ⟨j, e1, e2⟩ := Option.bind_eq_some_iff.mp e
  obtain ⟨v, a, b⟩ := h.get e2
  exact ⟨v, by rw [e1]; exact a, b⟩
section
variable {X : Cx}
theorem ok_ix : IxR X (rOp X.K ixR) := by
  intro value slice pins s σ H x y v u Q I rx ry q hs
  obtain ⟨H0, r1, r2, r, sub, w1, w2, q, k⟩ := q
  obtain ⟨i, e2, q⟩ := Option.bind_eq_some_iff.mp q
  have ey := w2.toInt e2
  have sq : ((toSeq r1).bind fun s => (atI s.2 i).map R.v) = some r → wpAny (model X.prog X.w) X.A (subscriptTail value slice v u) (EP X pins σ Q) X.xe s := fun q => by
    obtain ⟨⟨t, ds⟩, e1, q⟩ := Option.bind_eq_some_iff.mp q
    obtain ⟨d, e3, rfl⟩ := Option.map_eq_some_iff.mp q
    obtain ⟨p1, vs1, rfl, h1, q1⟩ := w1.seq sub e1
    obtain ⟨z, a, b⟩ := q1.atI e3
    cases t with
    | false => exact ix_list value slice pins s σ H _ y v u Q I rx ry ⟨p1, vs1, i, z, rfl, ey, SqL.of h1, a, give_v sub k b⟩ hs
    | true => exact ix_tup value slice pins s σ H _ y v u Q I rx ry ⟨p1, vs1, i, z, rfl, ey, SqT.of h1, a, give_v sub k b⟩ hs
  cases r1 with
  | scr ns =>
    obtain ⟨n, e3, rfl⟩ := Option.map_eq_some_iff.mp q
    obtain ⟨p, rfl, h⟩ := w1
    exact ix_list value slice pins s σ H _ y v u Q I rx ry ⟨p, _, i, .int n, rfl, ey, h, by rw [atI_map, e3]; rfl, give_v sub k (.int _)⟩ hs
  | v d => exact sq q
  | own d => exact sq q
  | bor d => exact sq q
  | dic d => exact sq q
  | bdi d => exact sq q
end

/-! ### slices -/
def cutD (ds : List D) (lo hi : Option Int) : List D := (ds.drop (HT.sIx ds.length 0 lo)).take (HT.sIx ds.length ds.length hi - HT.sIx ds.length 0 lo)
def slR (x : R) (lo hi : Option Int) : Option R := (toSeq x).bind fun s => if s.1 = true then some (.v (.tuple (cutD s.2 lo hi))) else some (.own (cutD s.2 lo hi))
def rSl (K : PySem.W.Frag) (g : R → Option Int → Option Int → Option R) : V → Option Int → Option Int → Hp → VK → Prop := fun x lo hi H Q =>
  ∃ H0 r1 r, Same H0 H ∧ View K H0 H x r1 ∧ g r1 lo hi = some r ∧ ∀ v H0' H', Ext H0 H H0' H' → Res K H H0' H' v r → Q v H'
theorem RpAll.cut {H : Hp} {vs : List V} {ds : List D} (h : RpAll H vs ds) (lo hi : Option Int) : RpAll H (cutV vs lo hi) (cutD ds lo hi) := by
  unfold cutV cutD
  rw [h.length]
  exact (h.drop _).take _
theorem cutD_whole {ds : List D} {lo hi : Option Int} (h : HT.sIx ds.length 0 lo = 0 ∧ HT.sIx ds.length ds.length hi = ds.length) : cutD ds lo hi = ds := by
  unfold cutD
  rw [h.1, h.2]
  simp
section
variable {X : Cx}
theorem ok_sl : SlR X (rSl X.K slR) := by
  intro pins s σ H x v vl vu lo hi sl Q I rx hs pl pu q
  obtain ⟨H0, r1, r, sub, w1, q, k⟩ := q
  obtain ⟨⟨t, ds⟩, e1, q⟩ := Option.bind_eq_some_iff.mp q
  obtain ⟨p1, vs1, rfl, h1, q1⟩ := w1.seq sub e1
  have ln := q1.length
  cases t with
  | false =>
    rw [if_neg (by simp)] at q
    cases q
    exact sl_list pins s σ H _ v vl vu lo hi sl Q I rx hs pl pu ⟨p1, vs1, rfl, SqL.of h1, give_lst sub (q1.cut lo hi) k⟩
  | true =>
    rw [if_pos rfl] at q
    cases q
    have t1 := toSeq_true e1
    subst t1
    refine sl_tupA pins s σ H _ v vl vu lo hi sl Q I rx hs pl pu ⟨p1, vs1, rfl, SqT.of h1, fun c => ?_, fun _ => give_tup sub (q1.cut lo hi) k⟩
    rw [ln] at c
    rw [cutD_whole c] at k
    exact give_v sub k w1
end
/-- t[::-1], t a tuple -/
theorem revApplied {prog : Program} {w : World} {A : Around} {E : Value → Shared → Prop} {s : Shared} {sl : Addr} {vl vu vs : Value} {n : Nat} {Q : Int × Int × Nat → Shared → Prop} (hs : s.heap.IsSliceOf sl vl vu vs) (pl : IsPart vl none) (pu : IsPart vu none) (ps : IsPart vs (some (-1)))
    (h : Q (((n : Int) - 1), -1, n) s) : wpAny (model prog w) A (Builtin.Slice.sliceApplied (.ref sl) (pure (n : Int))) Q E s := by
  obtain ⟨os, hos, hcs, hds⟩ := id hs
  unfold Builtin.Slice.sliceApplied Builtin.Slice.sliceFields
  refine wpAny_bind (wpAny_bind (wpAny_field hos hds (x := vl) rfl (wpAny_bind (wpAny_field hos hds (x := vu) rfl (wpAny_bind (wpAny_field hos hds (x := vs) rfl (wpAny_pure ?_)))))))
  refine wpAny_bind (HT.slicePart_ ps ?_)
  show wpAny _ _ (if ((-1 : Int) == 0) = true then _ else _) _ _ s
  rw [if_neg (by decide)]
  refine wpAny_bind (HT.slicePart_ pl (wpAny_bind (HT.slicePart_ pu (wpAny_bind (wpAny_pure ?_)))))
  have e : Builtin.Slice.sliceAdjust none none (-1) (n : Int) = ((n : Int) - 1, -1) := rfl
  have e2 : Builtin.Slice.slicePlaces ((n : Int) - 1) (-1) (-1) = n := by
    unfold Builtin.Slice.slicePlaces
    have h1 : ¬ ((-1 : Int) > 0) := by decide
    have e3 : (n : Int) - 1 - (-1) - 1 = (n : Int) - 1 := by omega
    simp only [h1, if_false, e3, Int.neg_neg, Int.ediv_one]
    split <;> omega
  show wpAny _ _ (match Builtin.Slice.sliceAdjust none none (-1) (n : Int) with | (lo, hi) => pure (lo, (-1 : Int), Builtin.Slice.slicePlaces lo hi (-1))) _ _ s
  rw [e]
  show wpAny _ _ (pure ((n : Int) - 1, (-1 : Int), Builtin.Slice.slicePlaces ((n : Int) - 1) (-1) (-1))) _ _ s
  rw [e2]
  exact wpAny_pure h
theorem revPick (xs : Array Value) : ((List.range xs.size).filterMap fun (m : Nat) => xs[(((xs.size : Int) - 1) + (m : Int) * (-1)).toNat]?).toArray = xs.toList.reverse.toArray := by
  have e : (fun (m : Nat) => xs[(((xs.size : Int) - 1) + (m : Int) * (-1)).toNat]?) = fun (m : Nat) => xs[xs.size - 1 - m]? := by
    funext m
    by_cases h : m < xs.size
    · have : (((xs.size : Int) - 1) + (m : Int) * (-1)).toNat = xs.size - 1 - m := by omega
      rw [this]
    · have e1 : (((xs.size : Int) - 1) + (m : Int) * (-1)).toNat = 0 := by omega
      have e2 : xs.size - 1 - m = 0 := by omega
      rw [e1, e2]
  rw [e]
  have q := PySem.W.krv_all xs
  have r := PySem.W.krv_range xs.size
  have e3 : (List.range xs.size).filterMap (fun (m : Nat) => xs[xs.size - 1 - m]?) = ((List.range xs.size).map (fun k => xs.size - 1 - k)).filterMap (xs[·]?) := by rw [List.filterMap_map]; rfl
  rw [e3, r, List.filterMap_reverse, q]
theorem getItem_tuple_rev {prog : Program} {w : World} {A : Around} {E : Value → Shared → Prop} {s : Shared} {t sl : Addr} {items : Array Value} {vl vu vs : Value} {Q : Value → Shared → Prop} (ht : IsTup s.heap t items) (hs : s.heap.IsSliceOf sl vl vu vs) (pl : IsPart vl none) (pu : IsPart vu none) (ps : IsPart vs (some (-1)))
    (h : Q (.ref s.heap.objs.size) { s with heap := s.heap.push { cls := .type "tuple", data := .seq items.toList.reverse.toArray } })
    (hsz : items.size ≤ sizeLine) : wpAny (model prog w) A (getItem (.ref t) (.ref sl)) Q E s := by
  have htake : sizeOk (.seq items.toList.reverse.toArray) := by
    show items.toList.reverse.toArray.size ≤ sizeLine
    rw [List.size_toArray, List.length_reverse, Array.length_toList]
    exact hsz
  obtain ⟨os, hos, hcs, hds⟩ := id hs
  have hTs : s.TypeIs (.ref sl) "slice" := ⟨os, hos, hcs⟩
  unfold getItem
  try with_reducible refine wpAny_holding ?_
  first | refine wpAny_bind (wpAny_pure ?_) | skip
  refine wpAny_bind (wpAny_sequenceKey ht.typeIs (by decide) ?_)
  refine wpAny_bind (wpAny_callSpecial?_slot (name := Str.ofString "__getitem__") ht.typeIs PyProof.Rows.slot_tuple_getitem
    (wpAny_call_entry PyProof.Rows.slot_tuple_getitem ht.typeIs entry_tuple_getitem ?_ (args_tuple_getitem _ _)))
  show wpAny _ _ (Builtin.Tuple.tupleItemsOf (.ref t) >>= _) _ _ s
  refine wpAny_bind (tupleItemsOf_ ht ?_)
  refine wpAny_bind (wpAny_typeOf hTs ?_)
  rw [if_pos (by decide)]
  refine wpAny_bind (revApplied hs pl pu ps ?_)
  have hno : ¬ (((((items.size : Nat) : Int) - 1 == 0) && ((-1 : Int) == 1) && (items.size == items.size)) = true) := by
    intro q
    rw [Bool.and_eq_true, Bool.and_eq_true] at q
    exact absurd q.1.2 (by decide)
  show wpAny _ _ (if ((((items.size : Nat) : Int) - 1 == 0) && ((-1 : Int) == 1) && (items.size == items.size)) = true then _ else _) _ _ s
  rw [if_neg hno, revPick]
  first
    | exact wpAny_bind (m := Builtin.Tuple.tupleExact _) (wpAny_newObj_type (wpAny_pure ⟨_, rfl, wpAny_pure h⟩) htake)
    | exact wpAny_bind (m := Builtin.Tuple.tupleExact _) (wpAny_newObj_type (wpAny_bind (wpAny_pure (wpAny_pure ⟨_, rfl, wpAny_pure h⟩))) htake)
    | exact wpAny_bind (wpAny_bind (m := Builtin.Tuple.tupleExact _) (wpAny_newObj_type (wpAny_pure (wpAny_pure ⟨_, rfl, wpAny_pure h⟩)) htake))
    | exact wpAny_bind (wpAny_bind (m := Builtin.Tuple.tupleExact _) (wpAny_newObj_type (wpAny_pure ⟨_, rfl, wpAny_pure h⟩) htake))
def revR (x : R) : Option R := (toSeq x).bind fun s => if s.1 = true then some (.v (.tuple s.2.reverse)) else some (.own s.2.reverse)
section
variable {X : Cx}
theorem pr_rev {e : Expr} {f : Env → Option R} {k : Nat} {p1 p2 p3 pos : Pos} (he : PE X e (tR X.K f)) : PE X (.Subscript e (.Slice none none (some (.UnaryOp .USub (.Constant (.int 1) k p1) p2)) p3) pos) (tR X.K fun ρ => (f ρ).bind revR) := by
  refine ⟨fun pins s σ H Q I h => ?_⟩
  obtain ⟨B, He, H0, ρ, r, st, q, kk⟩ := h
  obtain ⟨r1, e1, q⟩ := Option.bind_eq_some_iff.mp q
  obtain ⟨⟨t, ds⟩, e2, q⟩ := Option.bind_eq_some_iff.mp q
  refine Subscript_ (thn (he.run pins s σ H (fun x H1 => ∃ H01, Ext H0 H H01 H1 ∧ Res X.K H H01 H1 x r1) I ⟨B, He, H0, ρ, r1, st, e1, fun v H0' H' x w => ⟨H0', x, w⟩⟩) fun v s1 ⟨x, H1, I1, r1', H01, x1, w1⟩ => ?_)
  obtain ⟨p1', vs1, ex, h1, q1⟩ := w1.1.seq x1.sub e2
  subst ex
  cases r1'
  have hst : PO X (some (.UnaryOp .USub (.Constant (.int 1) k p1) p2)) (tPart (tUn (rU fun i => .int (-i)) (tC (.int 1)))) := po_some (pe_un un_neg pe_int)
  refine wpAny_Slice (thn (po_none.run pins s1 σ H1 (fun o H2 => o = none ∧ H2 = H1) I1 ⟨rfl, rfl⟩) fun vl s2 ⟨l, H2, I2, pl, el, e2⟩ => ?_)
  subst el e2
  refine thn (po_none.run pins s2 σ H2 (fun o H3 => o = none ∧ H3 = H2) I2 ⟨rfl, rfl⟩) fun vu s3 ⟨u, H3, I3, pu, eu, e3⟩ => ?_
  subst eu e3
  refine thn (hst.run pins s3 σ H3 (fun o H4 => o = some (-1) ∧ H4 = H3) I3 ⟨1, rfl, -1, rfl, rfl, rfl⟩) fun vs s4 ⟨o, H4, I4, ps, eo, e4⟩ => ?_
  subst eo e4
  have I5 : Inv X pins σ H4 { s4 with heap := s4.heap.push { cls := .type "slice", data := .fields #[vl, vu, vs] } } := I4.kept (t' := s4.toks) fun b ob q => Heap.get?_push_of_some _ q
  have sz : H4 (s4.heap.push { cls := .type "slice", data := .fields #[vl, vu, vs] }).objs.size = none := I5.hok.fresh (Nat.le_refl _)
  show wpAny (model X.prog X.w) X.A (subscriptTail e (.Slice none none (some (.UnaryOp .USub (.Constant (.int 1) k p1) p2)) p3) (.ref p1') (.ref s4.heap.objs.size)) (EP X pins σ Q) X.xe { s4 with heap := s4.heap.push { cls := .type "slice", data := .fields #[vl, vu, vs] } }
  cases t with
  | false =>
    rw [if_neg (by simp)] at q
    cases q
    obtain ⟨its, r, ht, hz⟩ := I5.list (SqL.of h1)
    have hlen := r.length
    refine tail_any (ops := [.ref p1', .ref s4.heap.objs.size]) ht.isList.typeIs (PySem.slot_list_getitem.lookup) ?_ (by with_unfolding_all rfl)
    refine wpAny_getItem_list_slice ht.isList (Heap.IsSliceOf.new _ vl vu vs) pl pu ps (by decide) ?_ (by rw [List.size_toArray]; omega)
    rw [PySem.W.krv_pick]
    refine ⟨.ref _, _, I5.laid (t' := s4.toks) (o := .lst vs1.reverse) (fun b ob q => Heap.get?_push_of_some _ q) (Nat.le_refl _) ?_, rfl, ?_⟩
    · exact ⟨by rw [List.length_reverse]; exact hz, _, 0, r.reverse, Heap.get?_push_size _ rfl⟩
    · exact give_lst x1.sub q1.reverse (fun v H0' H' x w => kk v H0' H' (x1.trans x) (w.weak x1.keep)) _ sz
  | true =>
    rw [if_pos rfl] at q
    cases q
    obtain ⟨its, r, ht, hz⟩ := I5.tuple (SqT.of h1)
    have hlen := r.length
    refine tail_any (ops := [.ref p1', .ref s4.heap.objs.size]) ht.typeIs (PyProof.Rows.slot_tuple_getitem.lookup) ?_ (by with_unfolding_all rfl)
    refine getItem_tuple_rev ht (Heap.IsSliceOf.new _ vl vu vs) pl pu ps ?_ (by rw [List.size_toArray]; omega)
    refine ⟨.ref _, _, I5.laid (t' := s4.toks) (o := .tup vs1.reverse) (fun b ob q => Heap.get?_push_of_some _ q) (Nat.le_refl _) ?_, rfl, ?_⟩
    · exact ⟨by rw [List.length_reverse]; exact hz, _, r.reverse, IsTup.new _ _⟩
    · exact give_tup x1.sub q1.reverse (fun v H0' H' x w => kk v H0' H' (x1.trans x) (w.weak x1.keep)) _ sz
end
end Kd

/-! Kd4: built-in calls, by value. -/
namespace Kd
open PySem PySem.Spec PyProof.Rows L2

def dInt : D → Option Int
  | .int n => some n
  | _ => none
def intsOf : List D → Option (List Int)
  | [] => some []
  | d :: ds => (dInt d).bind fun n => (intsOf ds).map (n :: ·)
theorem RpAll.toInts {H : Hp} : ∀ {vs : List V} {ds : List D} {ns : List Int}, RpAll H vs ds → intsOf ds = some ns → vs = ns.map V.int
  | _, _, _, .nil, e => by cases e; rfl
  | _, d :: ds, ns, .cons r t, e => by
    obtain ⟨n, e1, e⟩ := Option.bind_eq_some_iff.mp e
    obtain ⟨ms, e2, rfl⟩ := Option.map_eq_some_iff.mp e
    cases d with
    | int i => cases e1; cases r; rw [RpAll.toInts t e2]; rfl
    | _ => cases e1
theorem intsOf_map : ∀ ns : List Int, intsOf (ns.map PyData.int) = some ns
  | [] => rfl
  | n :: r => by simp [intsOf, dInt, intsOf_map r]

/-- the greatest, the least -/
def maxI : List Int → Int
  | [] => 0
  | n :: r => r.foldl max n
def minI : List Int → Int
  | [] => 0
  | n :: r => r.foldl min n
theorem foldl_max_ge : ∀ (r : List Int) (n : Int), n ≤ r.foldl max n ∧ (∀ y ∈ r, y ≤ r.foldl max n) ∧ (r.foldl max n = n ∨ r.foldl max n ∈ r)
  | [], n => ⟨Int.le_refl _, by intro y h; simp at h, Or.inl rfl⟩
  | x :: r, n => by
    obtain ⟨a, b, c⟩ := foldl_max_ge r (max n x)
    simp only [List.foldl_cons]
    refine ⟨by omega, fun y hy => ?_, ?_⟩
    · rcases List.mem_cons.mp hy with rfl | hy
      · omega
      · exact b y hy
    · rcases c with c | c
      · rw [c]
        rcases Int.le_total n x with h | h
        · right; rw [Int.max_eq_right h]; exact List.mem_cons_self
        · left; exact Int.max_eq_left h
      · exact .inr (List.mem_cons_of_mem _ c)
theorem foldl_min_le : ∀ (r : List Int) (n : Int), r.foldl min n ≤ n ∧ (∀ y ∈ r, r.foldl min n ≤ y) ∧ (r.foldl min n = n ∨ r.foldl min n ∈ r)
  | [], n => ⟨Int.le_refl _, by intro y h; simp at h, Or.inl rfl⟩
  | x :: r, n => by
    obtain ⟨a, b, c⟩ := foldl_min_le r (min n x)
    simp only [List.foldl_cons]
    refine ⟨by omega, fun y hy => ?_, ?_⟩
    · rcases List.mem_cons.mp hy with rfl | hy
      · omega
      · exact b y hy
    · rcases c with c | c
      · rw [c]
        rcases Int.le_total n x with h | h
        · left; exact Int.min_eq_left h
        · right; rw [Int.min_eq_right h]; exact List.mem_cons_self
      · exact .inr (List.mem_cons_of_mem _ c)
theorem maxI_of {ns : List Int} {m : Int} (hm : m ∈ ns) (hg : ∀ y, y ∈ ns → y ≤ m) : m = maxI ns := by
  cases ns with
  | nil => cases hm
  | cons n r =>
    obtain ⟨a, b, c⟩ := foldl_max_ge r n
    show m = r.foldl max n
    have h1 : m ≤ r.foldl max n := by
      rcases List.mem_cons.mp hm with rfl | h
      · exact a
      · exact b m h
    have h2 : r.foldl max n ≤ m := by
      rcases c with c | c
      · rw [c]; exact hg n List.mem_cons_self
      · exact hg _ (List.mem_cons_of_mem _ c)
    omega
theorem minI_of {ns : List Int} {m : Int} (hm : m ∈ ns) (hg : ∀ y, y ∈ ns → m ≤ y) : m = minI ns := by
  cases ns with
  | nil => cases hm
  | cons n r =>
    obtain ⟨a, b, c⟩ := foldl_min_le r n
    show m = r.foldl min n
    have h1 : r.foldl min n ≤ m := by
      rcases List.mem_cons.mp hm with rfl | h
      · exact a
      · exact b m h
    have h2 : m ≤ r.foldl min n := by
      rcases c with c | c
      · rw [c]; exact hg n List.mem_cons_self
      · exact hg _ (List.mem_cons_of_mem _ c)
    omega

/-! ### sorted -/
def alikeB (ds : List D) : Bool := ds.all fun d => ds.all fun e => PySem.W.alike d e
def consTup : D → Bool
  | .tuple (_ :: _) => true
  | _ => false
def plainD : D → Bool
  | .none => false
  | .tuple _ => false
  | _ => true
def sortableB (ds : List D) : Bool := ds.all consTup || ds.all plainD
def srtD (rev : Bool) (ds : List D) : List D := ds.mergeSort (PySem.W.dataLe rev id)
def sortR0 (rev : Bool) (x : R) : Option R := (toSeq x).bind fun s => if s.1 = false ∧ alikeB s.2 = true ∧ sortableB s.2 = true ∧ shD (.list s.2) = true then some (.own (srtD rev s.2)) else none
def sortR (rev : Bool) (x : R) : Option R := (toSeq x).bind fun s => if s.1 = false ∧ rev = false ∧ s.2.length < 2 then some (.own s.2) else sortR0 rev x
theorem alikeB_ok {ds : List D} (h : alikeB ds = true) : PySem.W.AllAlike ds := by
  unfold alikeB at h
  rw [List.all_eq_true] at h
  exact fun d hd e he => List.all_eq_true.mp (h d hd) e he
theorem sortableB_ok {ds : List D} (h : sortableB ds = true) : PySem.W.Sortable ds := by
  unfold sortableB at h
  rw [Bool.or_eq_true] at h
  rcases h with h | h
  · refine .inl fun d hd => ?_
    have q := List.all_eq_true.mp h d hd
    cases d with
    | tuple xs => cases xs with
      | nil => cases q
      | cons x r => exact ⟨x, r, rfl⟩
    | _ => cases q
  · refine .inr fun d hd => ?_
    have q := List.all_eq_true.mp h d hd
    cases d <;> first | (cases q; done) | exact ⟨(by intro z; cases z), (by intro z w; cases w)⟩
theorem depth_mem : ∀ {ds : List D} {d : D}, d ∈ ds → d.depth ≤ PyData.depthAll ds
  | x :: ds, d, h => by
    simp only [PyData.depthAll]
    rcases List.mem_cons.mp h with rfl | h
    · exact Nat.le_max_left _ _
    · exact Nat.le_trans (depth_mem h) (Nat.le_max_right _ _)
abbrev EachIs {α β : Type} := @PySem.W.EachIs α β

section
variable {X : Cx}
def oneR (g : R → Option R) : List R → Option R
  | [x] => g x
  | _ => none
def twoR (g : R → R → Option R) : List R → Option R
  | [x, y] => g x y
  | _ => none
theorem AllV.one {K : PySem.W.Frag} {H0 H : Hp} {xs : List V} {r : R} (h : AllV K H0 H xs [r]) : ∃ x, xs = [x] ∧ View K H0 H x r := by
  cases h with
  | cons a b => cases b; exact ⟨_, rfl, a⟩
theorem AllV.two {K : PySem.W.Frag} {H0 H : Hp} {xs : List V} {r q : R} (h : AllV K H0 H xs [r, q]) : ∃ x y, xs = [x, y] ∧ View K H0 H x r ∧ View K H0 H y q := by
  cases h with
  | cons a b => cases b with
    | cons c d => cases d; exact ⟨_, _, rfl, a, c⟩
/-- a call of one argument, by a rule of one value -/
theorem call_one {f : Value} {g : R → Option R} (h : ∀ (pins : List (Addr × Obj)) (s : Shared) (σ : L2.St) (H : Hp) (x : V) (us : List Value) (Q : VK) (H0 : Hp) (r1 r : R), Inv X pins σ H s → Vals [x] us → Same H0 H → View X.K H0 H x r1 → g r1 = some r →
    (∀ v H0' H', Ext H0 H H0' H' → Res X.K H H0' H' v r → Q v H') → wpAny (model X.prog X.w) X.A (call f us) (EP X pins σ Q) X.xe s) : CallR X f (rCa X.K (oneR g)) := by
  intro pins s σ H xs us Q I rr q
  obtain ⟨H0, rs, r, sub, w, q, k⟩ := q
  cases rs with
  | nil => cases q
  | cons r1 t => cases t with
    | cons _ _ => cases q
    | nil =>
      obtain ⟨x, rfl, w1⟩ := AllV.one w
      exact h pins s σ H x us Q H0 r1 r I rr sub w1 q k
theorem call_two {f : Value} {g : R → R → Option R} (h : ∀ (pins : List (Addr × Obj)) (s : Shared) (σ : L2.St) (H : Hp) (x y : V) (us : List Value) (Q : VK) (H0 : Hp) (r1 r2 r : R), Inv X pins σ H s → Vals [x, y] us → Same H0 H → View X.K H0 H x r1 → View X.K H0 H y r2 → g r1 r2 = some r →
    (∀ v H0' H', Ext H0 H H0' H' → Res X.K H H0' H' v r → Q v H') → wpAny (model X.prog X.w) X.A (call f us) (EP X pins σ Q) X.xe s) : CallR X f (rCa X.K (twoR g)) := by
  intro pins s σ H xs us Q I rr q
  obtain ⟨H0, rs, r, sub, w, q, k⟩ := q
  cases rs with
  | nil => cases q
  | cons r1 t => cases t with
    | nil => cases q
    | cons r2 t => cases t with
      | cons _ _ => cases q
      | nil =>
        obtain ⟨x, y, rfl, w1, w2⟩ := AllV.two w
        exact h pins s σ H x y us Q H0 r1 r2 r I rr sub w1 w2 q k

def lenR : R → Option R
  | .scr ns => some (I ns.length)
  | x => (toSeq x).bind fun s => some (I s.2.length)
theorem ok_len : CallR X (.builtin "len") (rCa X.K (oneR lenR)) := call_one fun pins s σ H x us Q H0 r1 r I rr sub w q k => by
  have sq : ((toSeq r1).bind fun s => some (Kd.I s.2.length)) = some r → wpAny (model X.prog X.w) X.A (call (.builtin "len") us) (EP X pins σ Q) X.xe s := fun q => by
    obtain ⟨⟨t, ds⟩, e1, q⟩ := Option.bind_eq_some_iff.mp q
    cases q
    obtain ⟨p1, vs1, rfl, h1, q1⟩ := w.seq sub e1
    refine call_len pins s σ H _ us Q I rr ⟨.ref p1, ds.length, rfl, ?_, give_v sub k (.int _)⟩
    cases t with
    | false => exact .inl ⟨vs1, SqL.of h1, q1.length.symm⟩
    | true => exact .inr ⟨vs1, SqT.of h1, q1.length.symm⟩
  cases r1 with
  | scr ns =>
    cases q
    obtain ⟨p, rfl, h⟩ := w
    exact call_len pins s σ H _ us Q I rr ⟨.ref p, ns.length, rfl, .inl ⟨_, h, by rw [List.length_map]⟩, give_v sub k (.int _)⟩
  | v d => exact sq q
  | own d => exact sq q
  | bor d => exact sq q
  | dic d => exact sq q
  | bdi d => exact sq q
def absR (x : R) : Option R := (toInt x).bind fun n => some (I (if n < 0 then -n else n))
theorem ok_abs : CallR X (.builtin "abs") (rCa X.K (oneR absR)) := call_one fun pins s σ H x us Q H0 r1 r I rr sub w q k => by
  obtain ⟨n, e1, q⟩ := Option.bind_eq_some_iff.mp q
  cases q
  exact call_abs pins s σ H _ us Q I rr ⟨n, by rw [w.toInt e1], give_v sub k (.int _)⟩
def intR : R → Option R
  | .v (.int n) => some (I n)
  | .v (.bool b) => some (I (if b then 1 else 0))
  | _ => none
theorem ok_int : CallR X (.type "int") (rCa X.K (oneR intR)) := call_one fun pins s σ H x us Q H0 r1 r I rr sub w q k => by
  cases r1 with
  | v d =>
    cases d with
    | int n => cases q; cases w; exact call_int1 pins s σ H _ us Q I rr (.inl ⟨n, rfl, give_v sub k (.int _)⟩)
    | bool n => cases q; cases w; exact call_int1 pins s σ H _ us Q I rr (.inr ⟨n, rfl, give_v sub k (.int _)⟩)
    | _ => cases q
  | _ => cases q
def max2R (x y : R) : Option R := (toInt x).bind fun i => (toInt y).bind fun j => some (I (if j > i then j else i))
def min2R (x y : R) : Option R := (toInt x).bind fun i => (toInt y).bind fun j => some (I (if j < i then j else i))
theorem ok_max2 (hc : X.calm = true) : CallR X (.builtin "max") (rCa X.K (twoR max2R)) := call_two fun pins s σ H x y us Q H0 r1 r2 r I rr sub w1 w2 q k => by
  obtain ⟨i, e1, q⟩ := Option.bind_eq_some_iff.mp q
  obtain ⟨j, e2, q⟩ := Option.bind_eq_some_iff.mp q
  cases q
  exact call_max2 hc pins s σ H _ us Q I rr ⟨i, j, by rw [w1.toInt e1, w2.toInt e2], give_v sub k (.int _)⟩
theorem ok_min2 (hc : X.calm = true) : CallR X (.builtin "min") (rCa X.K (twoR min2R)) := call_two fun pins s σ H x y us Q H0 r1 r2 r I rr sub w1 w2 q k => by
  obtain ⟨i, e1, q⟩ := Option.bind_eq_some_iff.mp q
  obtain ⟨j, e2, q⟩ := Option.bind_eq_some_iff.mp q
  cases q
  exact call_min2 hc pins s σ H _ us Q I rr ⟨i, j, by rw [w1.toInt e1, w2.toInt e2], give_v sub k (.int _)⟩
def maxR (x : R) : Option R := (toSeq x).bind fun s => (intsOf s.2).bind fun ns => if s.1 = false ∧ ns ≠ [] then some (I (maxI ns)) else none
def minR (x : R) : Option R := (toSeq x).bind fun s => (intsOf s.2).bind fun ns => if s.1 = false ∧ ns ≠ [] then some (I (minI ns)) else none
def sumR (x : R) : Option R := (toSeq x).bind fun s => (intsOf s.2).bind fun ns => if s.1 = false then some (I ns.sum) else none
theorem ok_max (hc : X.calm = true) : CallR X (.builtin "max") (rCa X.K (oneR maxR)) := call_one fun pins s σ H x us Q H0 r1 r I rr sub w q k => by
  obtain ⟨⟨t, ds⟩, e1, q⟩ := Option.bind_eq_some_iff.mp q
  obtain ⟨ns, e2, q⟩ := Option.bind_eq_some_iff.mp q
  obtain ⟨p1, vs1, rfl, h1, q1⟩ := w.seq sub e1
  have ev := q1.toInts e2
  split at q
  · rename_i c
    obtain ⟨ct, cn⟩ := c
    cases q
    cases ct
    subst ev
    exact cr_max hc pins s σ H _ us Q I rr ⟨p1, ns, rfl, SqL.of h1, List.length_pos_iff.mpr cn, fun m hm hg => by rw [maxI_of hm hg]; exact give_v sub k (.int _)⟩
  · cases q
theorem ok_min (hc : X.calm = true) : CallR X (.builtin "min") (rCa X.K (oneR minR)) := call_one fun pins s σ H x us Q H0 r1 r I rr sub w q k => by
  obtain ⟨⟨t, ds⟩, e1, q⟩ := Option.bind_eq_some_iff.mp q
  obtain ⟨ns, e2, q⟩ := Option.bind_eq_some_iff.mp q
  obtain ⟨p1, vs1, rfl, h1, q1⟩ := w.seq sub e1
  have ev := q1.toInts e2
  split at q
  · rename_i c
    obtain ⟨ct, cn⟩ := c
    cases q
    cases ct
    subst ev
    exact cr_min hc pins s σ H _ us Q I rr ⟨p1, ns, rfl, SqL.of h1, List.length_pos_iff.mpr cn, fun m hm hg => by rw [minI_of hm hg]; exact give_v sub k (.int _)⟩
  · cases q
theorem ok_sum (hc : X.calm = true) : CallR X (.builtin "sum") (rCa X.K (oneR sumR)) := call_one fun pins s σ H x us Q H0 r1 r I rr sub w q k => by
  obtain ⟨⟨t, ds⟩, e1, q⟩ := Option.bind_eq_some_iff.mp q
  obtain ⟨ns, e2, q⟩ := Option.bind_eq_some_iff.mp q
  obtain ⟨p1, vs1, rfl, h1, q1⟩ := w.seq sub e1
  have ev := q1.toInts e2
  split at q
  · rename_i ct
    cases q
    cases ct
    subst ev
    exact cr_sum hc pins s σ H _ us Q I rr ⟨p1, ns, rfl, SqL.of h1, give_v sub k (.int _)⟩
  · cases q
def bolsOf : List D → Option (List Bool)
  | [] => some []
  | .bool b :: ds => (bolsOf ds).map (b :: ·)
  | _ => none
theorem RpAll.toBols {H : Hp} : ∀ {vs : List V} {ds : List D} {ns : List Bool}, RpAll H vs ds → bolsOf ds = some ns → vs = ns.map V.bl
  | _, _, _, .nil, e => by cases e; rfl
  | _, d :: ds, ns, .cons r t, e => by
    cases d with
    | bool i =>
      obtain ⟨ms, e2, rfl⟩ := Option.map_eq_some_iff.mp (show (bolsOf ds).map (i :: ·) = some ns from e)
      cases r
      rw [RpAll.toBols t e2]
      rfl
    | _ => cases e
def allLR (x : R) : Option R := (toSeq x).bind fun s => (bolsOf s.2).bind fun bs => if s.1 = false then some (Bl (bs.all id)) else none
def anyLR (x : R) : Option R := (toSeq x).bind fun s => (bolsOf s.2).bind fun bs => if s.1 = false then some (Bl (bs.any id)) else none
theorem ok_all (hc : X.calm = true) : CallR X (.builtin "all") (rCa X.K (oneR allLR)) := call_one fun pins s σ H x us Q H0 r1 r I rr sub w q k => by
  obtain ⟨⟨t, ds⟩, e1, q⟩ := Option.bind_eq_some_iff.mp q
  obtain ⟨ns, e2, q⟩ := Option.bind_eq_some_iff.mp q
  obtain ⟨p1, vs1, rfl, h1, q1⟩ := w.seq sub e1
  have ev := q1.toBols e2
  split at q
  · rename_i ct
    cases q
    cases ct
    subst ev
    exact cr_all hc pins s σ H _ us Q I rr ⟨p1, ns, rfl, SqL.of h1, give_v sub k (.bl _)⟩
  · cases q
theorem ok_any (hc : X.calm = true) : CallR X (.builtin "any") (rCa X.K (oneR anyLR)) := call_one fun pins s σ H x us Q H0 r1 r I rr sub w q k => by
  obtain ⟨⟨t, ds⟩, e1, q⟩ := Option.bind_eq_some_iff.mp q
  obtain ⟨ns, e2, q⟩ := Option.bind_eq_some_iff.mp q
  obtain ⟨p1, vs1, rfl, h1, q1⟩ := w.seq sub e1
  have ev := q1.toBols e2
  split at q
  · rename_i ct
    cases q
    cases ct
    subst ev
    exact cr_any hc pins s σ H _ us Q I rr ⟨p1, ns, rfl, SqL.of h1, give_v sub k (.bl _)⟩
  · cases q
def listR (x : R) : Option R := (toSeq x).bind fun s => some (.own s.2)
def tupleR (x : R) : Option R := (toSeq x).bind fun s => some (.v (.tuple s.2))
theorem ok_list : CallR X (.type "list") (rCa X.K (oneR listR)) := call_one fun pins s σ H x us Q H0 r1 r I rr sub w q k => by
  obtain ⟨⟨t, ds⟩, e1, q⟩ := Option.bind_eq_some_iff.mp q
  cases q
  obtain ⟨p1, vs1, rfl, h1, q1⟩ := w.seq sub e1
  refine call_list_of pins s σ H _ us Q I rr ⟨p1, vs1, rfl, ?_, give_lst sub q1 k⟩
  cases t with
  | false => exact .inl (SqL.of h1)
  | true => exact .inr (SqT.of h1)
theorem ok_tuple : CallR X (.type "tuple") (rCa X.K (oneR tupleR)) := call_one fun pins s σ H x us Q H0 r1 r I rr sub w q k => by
  obtain ⟨⟨t, ds⟩, e1, q⟩ := Option.bind_eq_some_iff.mp q
  cases q
  obtain ⟨p1, vs1, rfl, h1, q1⟩ := w.seq sub e1
  refine call_tuple_of pins s σ H _ us Q I rr ⟨p1, vs1, rfl, ?_⟩
  cases t with
  | false => exact .inl ⟨SqL.of h1, give_tup sub q1 k⟩
  | true =>
    have t1 := toSeq_true e1
    subst t1
    exact .inr ⟨SqT.of h1, give_v sub k w⟩
end

section
variable {X : Cx}
abbrev EI (H0 : Hp) : Value → D → Prop := fun u d => ∃ v, RelV v u ∧ Rp H0 v d
theorem each_of {H0 : Hp} : ∀ {vs : List V} {us : List Value} {ds : List D}, Vals vs us → RpAll H0 vs ds → PySem.W.EachIs (EI H0) us ds
  | _, _, _, .nil, .nil => .nil
  | _, _, _, .cons r t, .cons q u => .cons ⟨_, r, q⟩ (each_of t u)
theorem of_each {H0 : Hp} : ∀ {us : List Value} {ds : List D}, PySem.W.EachIs (EI H0) us ds → ∃ vs, Vals vs us ∧ RpAll H0 vs ds
  | _, _, .nil => ⟨[], .nil, .nil⟩
  | _, _, .cons ⟨v, r, q⟩ t => by
    obtain ⟨vs, a, b⟩ := of_each t
    exact ⟨v :: vs, .cons r a, .cons q b⟩
theorem srtD_length (b : Bool) (ds : List D) : (srtD b ds).length = ds.length := List.length_mergeSort _
theorem ok_sortG (hu : X.A.units + 70 < cLine) (b : Bool) {pins : List (Addr × Obj)} {s : Shared} {σ : L2.St} {H H0 : Hp} {x : V} {u : Value} {Q : VK} {r1 r : R} (I : Inv X pins σ H s) (rx : RelV x u) (sub : Same H0 H) (w : View X.K H0 H x r1) (q : sortR0 b r1 = some r)
    (k : ∀ v H0' H', Ext H0 H H0' H' → Res X.K H H0' H' v r → Q v H') : wpAny (model X.prog X.w) X.A (call (.builtin "sorted") [u] [(Str.ofString "reverse", .bool b)]) (EP X pins σ Q) X.xe s ∧ (b = false → wpAny (model X.prog X.w) X.A (call (.builtin "sorted") [u]) (EP X pins σ Q) X.xe s) := by
  obtain ⟨⟨t, ds⟩, e1, q⟩ := Option.bind_eq_some_iff.mp q
  split at q
  · rename_i c
    obtain ⟨ct, ca, cs, ch⟩ := c
    cases q
    cases ct
    obtain ⟨p1, vs1, rfl, h1, q1⟩ := w.seq sub e1
    cases rx
    obtain ⟨its, rv, pl, hz⟩ := I.list (SqL.of h1)
    have e : PySem.W.EachIs (EI H0) its ds := each_of rv q1
    have er : PySem.W.EachIs (fun v b => ∃ as, Reads s.heap v (id b) as) its ds := e.mono fun u d ⟨v, r, z⟩ => Dp.reads I d v u (Rp.dp _ _ (Rp.mono sub _ _ z)) r
    have hl : ds.length ≤ sizeLine := by have := q1.length; omega
    have hd : ∀ d, d ∈ ds → X.A.units + 2 + (id d : D).depth < cLine := fun d hd => by
      have a := SeqAt.depth_of_shaped ch
      have a2 : PyData.depthAll ds + 1 ≤ 64 := by simpa [PyData.depth] using a
      have b := depth_mem hd
      show X.A.units + 2 + d.depth < cLine
      omega
    have fin : ∀ out, out.length = ds.length → PySem.W.EachIs (EI H0) out (ds.mergeSort (PySem.W.dataLe b id)) → EP X pins σ Q (.ref (s.heap.objs.size + 1)) { s with heap := PyProof.Rows.sortedAll s.heap its (List.toArray out) } := fun out ho eo => by
      obtain ⟨vs, r1, r2⟩ := of_each eo
      obtain ⟨ep, he'⟩ := PyProof.Rows.sortedAll_at s.heap its out.toArray
      have hlen : vs.length ≤ sizeLine := by rw [r1.length, ho]; exact hl
      exact ⟨.ref _, upd H (s.heap.objs.size + 1) (.lst vs), I.laid (t' := s.toks) (fun _ _ => PyProof.Rows.sortedAll_old) (Nat.le_succ _) ⟨hlen, out, ep, r1, he'⟩, rfl, give_lst sub r2 k _ (I.hok.fresh (Nat.le_succ _))⟩
    have hk : PySem.W.Sortable (ds.map id) := by rw [List.map_id]; exact sortableB_ok cs
    have ha : PySem.W.AllAlike (ds.map id) := by rw [List.map_id]; exact alikeB_ok ca
    refine ⟨PySem.W.sorted_rev_data (enc := id) pl.isList e er ha hk hl hd fin, fun hb => ?_⟩
    subst hb
    exact PySem.W.sorted_data (enc := id) pl.isList e er ha hk hl hd fin
  · cases q
theorem short_perm {α : Type} : ∀ {its out : List α}, its.length < 2 → out.Perm its → out = its
  | [], _, _, hp => hp.eq_nil
  | [a], _, _, hp => hp.eq_singleton
  | _ :: _ :: _, _, h, _ => absurd h (by simp)
theorem ok_sort1 {pins : List (Addr × Obj)} {s : Shared} {σ : L2.St} {H H0 : Hp} {x : V} {u : Value} {Q : VK} {r1 : R} {ds : List D} (I : Inv X pins σ H s) (rx : RelV x u) (sub : Same H0 H) (w : View X.K H0 H x r1) (e1 : toSeq r1 = some (false, ds)) (cl : ds.length < 2)
    (k : ∀ v H0' H', Ext H0 H H0' H' → Res X.K H H0' H' v (.own ds) → Q v H') : wpAny (model X.prog X.w) X.A (call (.builtin "sorted") [u]) (EP X pins σ Q) X.xe s := by
  obtain ⟨p1, vs1, rfl, h1, q1⟩ := w.seq sub e1
  cases rx
  obtain ⟨its, rv, pl, hz⟩ := I.list (SqL.of h1)
  have hl1 : its.length < 2 := by
    have a := q1.length
    have b := rv.length
    omega
  have sz : its.length ≤ sizeLine := by
    have : sizeLine = 16777216 := by decide
    omega
  refine Srt.sorted_any pl.isList sz (fun h2 => absurd h2 (by omega)) fun out hp => ?_
  have eo := short_perm hl1 hp
  subst eo
  obtain ⟨ep, he'⟩ := PyProof.Rows.sortedAll_at s.heap out out.toArray
  have hlen : vs1.length ≤ sizeLine := by
    have b := rv.length
    omega
  exact ⟨.ref _, upd H (s.heap.objs.size + 1) (.lst vs1), I.laid (t' := s.toks) (fun _ _ => PyProof.Rows.sortedAll_old) (Nat.le_succ _) ⟨hlen, out, ep, rv, he'⟩, rfl, give_lst sub q1 k _ (I.hok.fresh (Nat.le_succ _))⟩
theorem ok_sorted (hu : X.A.units + 70 < cLine) : CallR X (.builtin "sorted") (rCa X.K (oneR (sortR false))) := call_one fun pins s σ H x us Q H0 r1 r I rr sub w q k => by
  obtain ⟨u, rfl, ru⟩ := Vals.one rr
  obtain ⟨⟨t, ds⟩, e1, q1⟩ := Option.bind_eq_some_iff.mp q
  split at q1
  · rename_i c
    obtain ⟨ct, _, cl⟩ := c
    cases q1
    cases ct
    exact ok_sort1 I ru sub w e1 cl k
  · exact (ok_sortG hu false I ru sub w q1 k).2 rfl
end

/-! isinstance -/
def tyN : D → String
  | .none => "NoneType"
  | .bool _ => "bool"
  | .int _ => "int"
  | .str _ => "str"
  | .list _ => "list"
  | .tuple _ => "tuple"
  | .dict _ => "dict"
def isiT (a b : String) : Bool := a == b || (a == "bool" && b == "int")
def isiNames : List String := ["int", "bool", "str", "tuple", "list"]
def isiR (T : String) (x : R) : Option R := (toData x).bind fun d => if isiNames.contains T = true then some (Bl (isiT (tyN d) T)) else none
theorem kit_all : ∀ a ∈ ["NoneType", "bool", "int", "str", "list", "tuple"], ∀ b ∈ isiNames, kitB a b = some (isiT a b) := by decide +kernel
theorem tyN_mem {K : PySem.W.Frag} {H : Hp} {v : V} {d : D} (h : Dp K H v d) : tyN d ∈ ["NoneType", "bool", "int", "str", "list", "tuple"] := by
  cases h <;> simp [tyN]
section
variable {X : Cx}
theorem View.typ {K : PySem.W.Frag} {H0 H : Hp} {v : V} {r : R} (sub : Same H0 H) (w : View K H0 H v r) {d : D} (e : toData r = some d) : TyX K H v (.type (tyN d)) := by
  have sq : ∀ t ds, toSeq r = some (t, ds) → tyN d = (if t then "tuple" else "list") → TyX K H v (.type (tyN d)) := fun t ds e1 e2 => by
    obtain ⟨p1, vs1, rfl, h1, q1⟩ := w.seq sub e1
    rw [e2]
    cases t with
    | false => exact .base (.lst h1)
    | true => exact .base (.tup h1)
  cases r with
  | v d' =>
    have ed : d' = d := Option.some.inj e
    subst ed
    cases d' with
    | none => cases w; exact .base .non
    | bool z => cases w; exact .base (.bl z)
    | int z => cases w; exact .base (.int z)
    | str z => cases w; exact .base (.str z)
    | tuple z => exact sq _ _ rfl rfl
    | list z => exact sq _ _ rfl rfl
    | dict z => cases w
  | own z => cases e; exact sq _ _ rfl rfl
  | bor z => cases e; exact sq _ _ rfl rfl
  | _ => cases e
/-- isinstance(e, T) -/
theorem pr_isi {e : Expr} {f : Env → Option R} {p q pos : Pos} {T : String} {TS : Str} (he : PE X e (tR X.K f)) (hg : Gl X "isinstance") (hm : X.mg "isinstance" = none) (hg2 : Gl X TS) (hm2 : X.mg TS = none) (hT : bootBuiltins TS = some (.type T)) (hn2 : TS ≠ "__name__") (hdb : (TS == ("__debug__" : Str)) = false)
    (hs : starEach [e, .Name TS q] X.env = (false, eval e X.env) :: starEach [.Name TS q] X.env) : PE X (.Call (.Name "isinstance" p) [e, .Name TS q] [] pos) (tR X.K fun ρ => (f ρ).bind (isiR T)) := by
  refine PE.imp (pe_callB (id := "isinstance") call_isi hg hm (by decide +kernel) (pa_cons he (pa_cons (pe_bltn hg2 hm2 hT (v := .ty T) rfl hn2 hdb) pa_nil) hs) (by decide) (by decide) hs (by rfl)) fun σ H Q h => ?_
  obtain ⟨B, He, H0, ρ, r, st, q, k⟩ := h
  obtain ⟨r1, e1, q⟩ := Option.bind_eq_some_iff.mp q
  obtain ⟨d, e2, q⟩ := Option.bind_eq_some_iff.mp q
  split at q
  · rename_i c
    cases q
    refine ⟨B, He, H0, ρ, r1, st, e1, fun v H0' H' x w => ?_⟩
    have hd := tyN_mem (w.1.dp x.sub e2)
    exact ⟨v, .ty T, _, _, _, rfl, .ty T, w.1.typ x.sub e2, kit_ty (kit_all _ hd T (by simpa using c)), k _ H0' H' x ⟨.bl _, fun o => by cases o⟩⟩
  · cases q
end
end Kd

/-! Kd5: what is walked: lists, tuples, ranges, enumerate, reversed. -/
namespace Kd
open PySem PySem.Spec PyProof.Rows L2

set_option maxHeartbeats 1000000 in
open AutoSeq1 in
theorem meets_enum1 {v : Value} {o : Obj} {H : Heap → Prop} (B : Begins v o H) :
    Meets (Builtin.«enumerate.__new__» ⟨[.type "enumerate", v], []⟩) (fun _ R s => H s.heap ∧
      R (.ok (.ret (.ref (s.heap.push o).objs.size))) { s with heap := (s.heap.push o).push { cls := .type "enumerate", data := .fields #[.none, .bool false, .ref s.heap.objs.size, rawInt 0, .none, .none] } }) :=
  .of_wp fun prog w A R s h => by
    obtain ⟨hp, g, d, tk, os⟩ := s; obtain ⟨h1, h⟩ := h
    have hsub := sub_enumerate
    have q1 : ∀ {A' : Around} {E : Value → Shared → Prop} {Q : Value → Shared → Prop}, Q (.ref hp.objs.size) ⟨hp.push o, g, d, tk, os⟩ → wpAny (model prog w) A' (pyIter v) Q E ⟨hp, g, d, tk, os⟩ :=
      fun q => B.iter prog w _ _ ⟨hp, g, d, tk, os⟩ _ h1 q
    wp_walk using q1
    refine wpAny_stack_any fun st => wpAny_pure ?_
    split
    · rename_i c _ _ _ _ _
      cases (c == Value.type "enumerate")
      · wp_walk using q1
        exact ⟨_, rfl, h⟩
      · wp_walk using q1
        exact ⟨_, rfl, h⟩
    · wp_walk using q1
      exact ⟨_, rfl, h⟩
section
variable {prog : Program} {w : World} {A : Around} {E : Value → Shared → Prop} {s : Shared}
theorem enum_begins1 {v : Value} {o : Obj} {H : Heap → Prop} {Q : Value → Shared → Prop} (B : Begins v o H) (h1 : H s.heap)
    (h : ∀ h', IsEnum h' (s.heap.objs.size + 1) s.heap.objs.size 0 .none → h'.get? s.heap.objs.size = some o → h'.objs.size = s.heap.objs.size + 2 →
      (∀ b o, s.heap.get? b = some o → h'.get? b = some o) → Q (.ref (s.heap.objs.size + 1)) { s with heap := h' }) :
    wpAny (model prog w) A (call (.type "enumerate") [v]) Q E s := by
  refine callType_new F.called_enumerate (by decide) (F.typeCall_enumerate_1 _) (F.newCall_enumerate_1 _) (fun obj => F.args_object_init_2 obj _) F.entry_enumerate_new
    (meets_enum1 B) ⟨h1, ?_⟩
  have hz : (s.heap.push o).objs.size = s.heap.objs.size + 1 := Heap.size_push ..
  show _ ∧ _
  rw [hz]
  have he : IsEnum ((s.heap.push o).push { cls := .type "enumerate", data := .fields #[.none, .bool false, .ref s.heap.objs.size, rawInt 0, .none, .none] }) (s.heap.objs.size + 1) s.heap.objs.size 0 .none := by
    have := Heap.get?_push_size (s.heap.push o) (o := { cls := .type "enumerate", data := .fields #[.none, .bool false, .ref s.heap.objs.size, rawInt 0, .none, .none] }) rfl
    rw [hz] at this; exact this
  exact ⟨⟨_, he, rfl⟩, h _ he (Heap.get?_push_of_some _ (Heap.get?_push_size _ B.free)) (by rw [Heap.size_push, hz]) fun b o x => Heap.get?_push_of_some _ (Heap.get?_push_of_some _ x)⟩
end
/-- enumerate(t), t a tuple -/
def IteT (K : PySem.W.Frag) (a : Addr) : It :=
  ⟨fun i H => ∃ (xs : List V) (x : V), SqT K H a xs ∧ xs[i]? = some x, fun i H v H' => ∃ T x, v = .ref T ∧ H T = none ∧ H' = upd H T (.tup [.int (i : Nat), x]) ∧ ∀ xs, SqT K H a xs → xs[i]? = some x, fun i H => ∃ xs : List V, SqT K H a xs ∧ xs.length = i⟩
theorem turn_enumT {P : Program} {w : World} {K : PySem.W.Frag} {elts : List Expr} {kk : Nat} {tpos : Pos} (a e it : Addr) :
    Turn P w K (.Tuple elts kk tpos) (IteT K a) [e, it] e (fun i h => (∃ old, IsEnum h e it ((i : Nat) : Int) old) ∧ h.IsTupleIter it a i ∧ e ≠ it ∧ a ≠ it ∧ e ≠ a) where
  mem := by simp
  obj := fun i h st b hb => by
    obtain ⟨⟨old, he⟩, ⟨o, ho, hc, hd⟩, _⟩ := st
    have e' : b = e ∨ b = it := by simpa using hb
    rcases e' with z | z
    · rw [z]; exact ⟨_, he, fun v q => nomatch q⟩
    · rw [z]; exact ⟨o, ho, fun v q => by rw [hd] at q; cases q⟩
  keep := fun i h h' st k => let ⟨⟨old, he⟩, hi, hne⟩ := st; ⟨⟨old, k e (by simp) _ he⟩, hi.at fun o q => k it (by simp) o q, hne⟩
  item := by
    intro X hP hw hK hc i pins s σ H E I hf st hg
    subst hP hw hK
    obtain ⟨⟨old, he⟩, hit, hne, hai, hea⟩ := st
    obtain ⟨xs, x, hq, hx⟩ := hg
    obtain ⟨its, rv, p, hz⟩ := I.tuple hq
    obtain ⟨u, hu, ru⟩ := rv.get hx
    have hel : e < s.heap.objs.size := Heap.lt_size he
    have hil : it < s.heap.objs.size := by obtain ⟨_, q, _⟩ := hit; exact Heap.lt_size q
    have hh : X.A.in1.handled = none := I.ok.hd hc
    have hlt : i < its.toArray.size := by
      have := (List.getElem?_eq_some_iff.mp hu).1
      simpa using this
    refine wpAny_pyNext_enum_itemD (Draws.tuple (w := X.w) (prog := X.prog) hh it a hai its.toArray) he ⟨hit, p⟩ hlt hne (by simp [hne, hea]) fun x' h' tk hP' ho hSt hT hsz hk => ?_
    have ex : x' = u := by
      have : its.toArray[i]? = some u := by simpa using hu
      rw [hP'] at this
      exact Option.some.inj this
    subst ex
    refine ⟨_, rfl, wpAny_letOwnedTupleGo_enum (s := { s with heap := h', toks := tk + 1 }) ho fun h'' he' sb => ?_⟩
    have hT2 : h''.get? s.heap.objs.size = some { cls := .type "tuple", data := .seq #[.int i tk, x'] } := (sb.2 _ (Nat.ne_of_gt hel)).trans hT
    have new : ObjOk X.prog X.w (upd H s.heap.objs.size (.tup [.int (i : Nat), x])) h'' s.heap.objs.size (.tup [.int (i : Nat), x]) :=
      ⟨by show 2 ≤ sizeLine; decide, [.int i tk, x'], .cons ⟨_, rfl⟩ (.cons ru .nil), ⟨_, hT2, rfl, _, rfl⟩⟩
    have I1 : Inv X pins σ (upd H s.heap.objs.size (.tup [.int (i : Nat), x])) { s with heap := h'', toks := tk + 1 } :=
      I.turnedNew (ch := [e, it]) (fun b ob hb q => (sb.2 b (fun z => hb (by simp [z]))).trans (hk b ob (fun z => hb (by simp [z])) (fun z => hb (by simp [z])) q)) hf (Nat.le_refl _) new
    refine ⟨.ref s.heap.objs.size, _, I1, rfl, ⟨_, x, rfl, I.hok.fresh (Nat.le_refl _), rfl, fun ys hy => by rw [I.tuple_inj hy hq]; exact hx⟩, ⟨⟨x', ?_⟩, hSt.1.at fun o q => (sb.2 it (Ne.symm hne)).trans q, hne, hai, hea⟩, fun b hb => ?_⟩
    · have e1 : ((i + 1 : Nat) : Int) = (i : Int) + 1 := by omega
      rw [e1]; exact he'
    · have hb' : b < s.heap.objs.size := by
        have e' : b = e ∨ b = it := by simpa using hb
        rcases e' with z | z
        · rw [z]; exact hel
        · rw [z]; exact hil
      rw [upd_ne (Nat.ne_of_lt hb')]
      exact (hf b hb).1
  done := by
    intro X hP hw hK hc i pins s σ H E I hf st hg
    subst hP hw hK
    obtain ⟨⟨old, he⟩, hit, hne, hai, hea⟩ := st
    obtain ⟨xs, hq, hx⟩ := hg
    obtain ⟨its, rv, p, hz⟩ := I.tuple hq
    obtain ⟨f0, f1, f2, f3, f4, f5⟩ := hf it (by simp)
    have hl := rv.length
    have hh : X.A.in1.handled = none := I.ok.hd hc
    have hsz : its.toArray.size = i := by simp; omega
    exact wpAny_pyNext_enum_endD (Draws.tuple (w := X.w) (prog := X.prog) hh it a hai its.toArray) he ⟨by rw [hsz]; exact hit, p⟩ fun h' eb => ⟨rfl, I.turned (t' := s.toks) (fun b o hb q => eb b o hb q) f0 f1 f3 f4 f5⟩
  self := fun A i s Q E st h => let ⟨⟨_, he⟩, _⟩ := st; wpAny_pyIter_enum he h
end Kd

/-! Kd6: one reading for all that is walked. -/
namespace Kd
open PySem PySem.Spec PyProof.Rows L2

/-- the iterator J yields the data ds, as long as Hb stands -/
structure IsIt (J : It) (Hb H0 : Hp) (ds : List D) : Prop where
  go : ∀ (i : Nat) (H0' H : Hp), Same H0 H0' → Same H0' H → Same Hb H → i < ds.length → J.go i H
  yld : ∀ (i : Nat) (H0' H : Hp) (x : V) (H3 : Hp), Same H0 H0' → Same H0' H → Same Hb H → i < ds.length → J.yld i H x H3 → ∃ H03 d, ds[i]? = some d ∧ Ext H0' H H03 H3 ∧ Rp H03 x d
  stop : ∀ (i : Nat) (H0' H : Hp), Same H0 H0' → Same H0' H → Same Hb H → i = ds.length → J.stop i H
/-- is it still (stands whatever the statements do), its items -/
def iD (K : PySem.W.Frag) (f : Env → Option (Bool × List D)) : TI := fun σ H R => ∃ B He H0 ρ b ds, Ks K B He H0 H σ ρ ∧ f ρ = some (b, ds) ∧ ∀ J H0' H', Ext H0 H H0' H' → IsIt J (if b = true then H0' else H') H0' ds → ds.length ≤ sizeLine → R J H'

theorem RpAll.get2 {H : Hp} {vs : List V} {ds : List D} {i : Nat} {v : V} {d : D} (h : RpAll H vs ds) (e : vs[i]? = some v) (e2 : ds[i]? = some d) : Rp H v d := by
  obtain ⟨d', a, b⟩ := h.getV e
  rw [e2] at a
  cases a
  exact b
theorem isIt_list {K : PySem.W.Frag} {Hb H0 : Hp} {a : Addr} {vs : List V} {ds : List D} (h : Hb a = some (.lst vs)) (r : RpAll H0 vs ds) : IsIt (Itl K a) Hb H0 ds where
  go := fun i H0' H s1 s2 s3 hi => by
    obtain ⟨v, e, _⟩ := r.get (List.getElem?_eq_getElem hi)
    exact ⟨vs, v, SqL.of (s3 _ _ h), e⟩
  yld := fun i H0' H x H3 s1 s2 s3 hi y => by
    obtain ⟨e, y⟩ := y
    subst e
    have ex := y vs (SqL.of (s3 _ _ h))
    obtain ⟨d, e1, e2⟩ := r.getV ex
    exact ⟨H0', d, e1, Ext.refl s2, Rp.mono s1 _ _ e2⟩
  stop := fun i H0' H s1 s2 s3 hi => ⟨vs, SqL.of (s3 _ _ h), by rw [r.length, hi]; exact Nat.le_refl _⟩
theorem isIt_tup {K : PySem.W.Frag} {Hb H0 : Hp} {a : Addr} {vs : List V} {ds : List D} (h : Hb a = some (.tup vs)) (r : RpAll H0 vs ds) : IsIt (Itt K a) Hb H0 ds where
  go := fun i H0' H s1 s2 s3 hi => by
    obtain ⟨v, e, _⟩ := r.get (List.getElem?_eq_getElem hi)
    exact ⟨vs, v, SqT.of (s3 _ _ h), e⟩
  yld := fun i H0' H x H3 s1 s2 s3 hi y => by
    obtain ⟨e, y⟩ := y
    subst e
    have ex := y vs (SqT.of (s3 _ _ h))
    obtain ⟨d, e1, e2⟩ := r.getV ex
    exact ⟨H0', d, e1, Ext.refl s2, Rp.mono s1 _ _ e2⟩
  stop := fun i H0' H s1 s2 s3 hi => ⟨vs, SqT.of (s3 _ _ h), by rw [r.length, hi]; exact Nat.le_refl _⟩
def rngD (lo : Int) (n : Nat) : List D := (List.range n).map fun i => .int (lo + (i : Nat))
theorem isIt_rng {Hb H0 : Hp} {lo : Int} {n : Nat} : IsIt (Itr lo n) Hb H0 (rngD lo n) where
  go := fun i H0' H s1 s2 s3 hi => by
    have : i < n := by simpa [rngD] using hi
    exact this
  yld := fun i H0' H x H3 s1 s2 s3 hi y => by
    obtain ⟨e, y⟩ := y
    subst e y
    have hn : i < n := by simpa [rngD] using hi
    exact ⟨H0', _, by simp [rngD, hn] <;> rfl, Ext.refl s2, .int _⟩
  stop := fun i H0' H s1 s2 s3 hi => by simp [rngD] at hi; exact Nat.le_of_eq hi.symm
def rngC (lo c : Int) (n : Nat) : List D := (List.range n).map fun i => .int (lo + (i : Nat) * c)
theorem isIt_rngC {Hb H0 : Hp} {lo c : Int} {n : Nat} : IsIt (Itc lo c n) Hb H0 (rngC lo c n) where
  go := fun i H0' H s1 s2 s3 hi => by
    have : i < n := by simpa [rngC] using hi
    exact this
  yld := fun i H0' H x H3 s1 s2 s3 hi y => by
    obtain ⟨e, y⟩ := y
    subst e y
    have hn : i < n := by simpa [rngC] using hi
    exact ⟨H0', _, by simp [rngC, hn] <;> rfl, Ext.refl s2, .int _⟩
  stop := fun i H0' H s1 s2 s3 hi => by simp [rngC] at hi; exact Nat.le_of_eq hi.symm
def enumD (ds : List D) : List D := ds.zipIdx.map fun p => .tuple [.int (p.2 : Nat), p.1]
theorem enumD_get {ds : List D} {i : Nat} {d : D} (h : ds[i]? = some d) : (enumD ds)[i]? = some (.tuple [.int (i : Nat), d]) := by
  simp [enumD, List.getElem?_zipIdx, h]
theorem enumD_length (ds : List D) : (enumD ds).length = ds.length := by simp [enumD]
theorem pair_new {H0' H : Hp} {T : Addr} {i : Int} {x : V} {d : D} (s : Same H0' H) (hT : H T = none) (r : Rp H0' x d) : Ext H0' H (upd H0' T (.tup [.int i, x])) (upd H T (.tup [.int i, x])) ∧ Rp (upd H0' T (.tup [.int i, x])) (.ref T) (.tuple [.int i, d]) := by
  have e := (Ext.refl s).add (o := .tup [.int i, x]) hT
  exact ⟨e, .tup upd_same (.cons (.int _) (.cons (Rp.mono e.base _ _ r) .nil))⟩
theorem isIt_enumL {K : PySem.W.Frag} {Hb H0 : Hp} {a : Addr} {vs : List V} {ds : List D} (h : Hb a = some (.lst vs)) (r : RpAll H0 vs ds) : IsIt (Ite K a) Hb H0 (enumD ds) where
  go := fun i H0' H s1 s2 s3 hi => by
    rw [enumD_length] at hi
    obtain ⟨v, e, _⟩ := r.get (List.getElem?_eq_getElem hi)
    exact ⟨vs, v, SqL.of (s3 _ _ h), e⟩
  yld := fun i H0' H x H3 s1 s2 s3 hi y => by
    obtain ⟨T, x', rfl, hT, rfl, y⟩ := y
    have ex := y vs (SqL.of (s3 _ _ h))
    obtain ⟨d, e1, e2⟩ := r.getV ex
    obtain ⟨p, q⟩ := pair_new (i := (i : Nat)) s2 hT (Rp.mono s1 _ _ e2)
    exact ⟨_, _, enumD_get e1, p, q⟩
  stop := fun i H0' H s1 s2 s3 hi => by rw [enumD_length] at hi; exact ⟨vs, SqL.of (s3 _ _ h), by rw [r.length, hi]; exact Nat.le_refl _⟩
theorem isIt_enumT {K : PySem.W.Frag} {Hb H0 : Hp} {a : Addr} {vs : List V} {ds : List D} (h : Hb a = some (.tup vs)) (r : RpAll H0 vs ds) : IsIt (IteT K a) Hb H0 (enumD ds) where
  go := fun i H0' H s1 s2 s3 hi => by
    rw [enumD_length] at hi
    obtain ⟨v, e, _⟩ := r.get (List.getElem?_eq_getElem hi)
    exact ⟨vs, v, SqT.of (s3 _ _ h), e⟩
  yld := fun i H0' H x H3 s1 s2 s3 hi y => by
    obtain ⟨T, x', rfl, hT, rfl, y⟩ := y
    have ex := y vs (SqT.of (s3 _ _ h))
    obtain ⟨d, e1, e2⟩ := r.getV ex
    obtain ⟨p, q⟩ := pair_new (i := (i : Nat)) s2 hT (Rp.mono s1 _ _ e2)
    exact ⟨_, _, enumD_get e1, p, q⟩
  stop := fun i H0' H s1 s2 s3 hi => by rw [enumD_length] at hi; exact ⟨vs, SqT.of (s3 _ _ h), by rw [r.length, hi]⟩
theorem isIt_revL {K : PySem.W.Frag} {Hb H0 : Hp} {a : Addr} {vs : List V} {ds : List D} (h : Hb a = some (.lst vs)) (r : RpAll H0 vs ds) : IsIt (Itv K a vs.length) Hb H0 ds.reverse where
  go := fun i H0' H s1 s2 s3 hi => by
    rw [List.length_reverse] at hi
    have hl := r.length
    have hj : vs.length - 1 - i < vs.length := by omega
    exact ⟨by omega, vs, vs[vs.length - 1 - i], SqL.of (s3 _ _ h), List.getElem?_eq_getElem hj⟩
  yld := fun i H0' H x H3 s1 s2 s3 hi y => by
    obtain ⟨e, y⟩ := y
    subst e
    have ex := y vs (SqL.of (s3 _ _ h))
    obtain ⟨d, e1, e2⟩ := r.getV ex
    rw [List.length_reverse] at hi
    refine ⟨H0', d, ?_, Ext.refl s2, Rp.mono s1 _ _ e2⟩
    rw [List.getElem?_reverse hi, ← r.length]
    exact e1
  stop := fun i H0' H s1 s2 s3 hi => by rw [List.length_reverse] at hi; exact Nat.le_of_eq (by rw [r.length, hi])
theorem isIt_revT {K : PySem.W.Frag} {Hb H0 : Hp} {a : Addr} {vs : List V} {ds : List D} (h : Hb a = some (.tup vs)) (r : RpAll H0 vs ds) : IsIt (RT.ItvT K a vs.length) Hb H0 ds.reverse where
  go := fun i H0' H s1 s2 s3 hi => by
    rw [List.length_reverse] at hi
    have hl := r.length
    have hj : vs.length - 1 - i < vs.length := by omega
    exact ⟨by omega, vs, vs[vs.length - 1 - i], SqT.of (s3 _ _ h), List.getElem?_eq_getElem hj⟩
  yld := fun i H0' H x H3 s1 s2 s3 hi y => by
    obtain ⟨e, y⟩ := y
    subst e
    have ex := y vs (SqT.of (s3 _ _ h))
    obtain ⟨d, e1, e2⟩ := r.getV ex
    rw [List.length_reverse] at hi
    refine ⟨H0', d, ?_, Ext.refl s2, Rp.mono s1 _ _ e2⟩
    rw [List.getElem?_reverse hi, ← r.length]
    exact e1
  stop := fun i H0' H s1 s2 s3 hi => by rw [List.length_reverse] at hi; exact Nat.le_of_eq (by rw [r.length, hi])

/-- a sequence's value: still or not -/
def stillR : R → Bool
  | .bor _ => false
  | _ => true
def seqI (r : R) : Option (Bool × List D) := (toSeq r).map fun s => (stillR r, s.2)
theorem seq_it {K : PySem.W.Frag} {H0 H H0' H' : Hp} {v : V} {r : R} {t : Bool} {ds : List D} (x : Ext H0 H H0' H') (w : Res K H H0' H' v r) (e : toSeq r = some (t, ds)) :
    ∃ H0'' p vs, v = .ref p ∧ Ext H0 H H0'' H' ∧ Same H0' H0'' ∧ H' p = some (seqO t vs) ∧ (if stillR r = true then H0'' else H') p = some (seqO t vs) ∧ RpAll H0'' vs ds := by
  cases r with
  | v d =>
    have e' := e
    cases d with
    | tuple xs => cases e; cases w.1 with | tup h q => exact ⟨H0', _, _, rfl, x, Same.refl _, x.sub _ _ h, h, q⟩
    | list xs => cases e; cases w.1 with | lst h q => exact ⟨H0', _, _, rfl, x, Same.refl _, x.sub _ _ h, h, q⟩
    | _ => cases e
  | own xs =>
    cases e
    obtain ⟨H0'', x', s', q⟩ := w.freeze x
    cases q with
    | lst h q => exact ⟨H0'', _, _, rfl, x', s', x'.sub _ _ h, h, q⟩
  | bor xs =>
    cases e
    obtain ⟨p, vs, rfl, h, q⟩ := w.1
    exact ⟨H0', p, vs, rfl, x, Same.refl _, h, h, q⟩
  | _ => cases e
section
variable {X : Cx} {tg e : Expr} {f : Env → Option R}
theorem lenD {pins : List (Addr × Obj)} {σ : L2.St} {H : Hp} {s : Shared} {H0 : Hp} {p : Addr} {vs : List V} {ds : List D} {t : Bool} (I : Inv X pins σ H s) (h : H p = some (seqO t vs)) (r : RpAll H0 vs ds) : ds.length ≤ sizeLine := by
  have hl := r.length
  cases t with
  | false => obtain ⟨_, _, _, z⟩ := I.list (SqL.of h); omega
  | true => obtain ⟨_, _, _, z⟩ := I.tuple (SqT.of h); omega
theorem PE.inv {t : TE} (h : PE X e t) : PE X e (fun σ H Q => t σ H fun v H' => (∃ (pins : List (Addr × Obj)) (s : Shared), Inv X pins σ H' s) → Q v H') := ⟨fun pins s σ H Q I q =>
  thn (h.run pins s σ H _ I q) fun u s' ⟨v, H', I', r, k⟩ => ⟨v, H', I', r, k ⟨pins, s', I'⟩⟩⟩
theorem PI.fn {tg : Expr} {f g : Env → Option (Bool × List D)} (h : PI X tg e (iD X.K f)) (i : ∀ ρ r, g ρ = some r → f ρ = some r) : PI X tg e (iD X.K g) := ⟨fun pins s σ H R I ⟨B, He, H0, ρ, b, ds, st, q, k⟩ => h.run pins s σ H R I ⟨B, He, H0, ρ, b, ds, st, i _ _ q, k⟩⟩
/-- a list, a tuple -/
theorem pr_seq (he : PE X e (tR X.K f)) : PI X tg e (iD X.K fun ρ => (f ρ).bind seqI) := by
  refine ⟨fun pins s σ H R I h => ?_⟩
  obtain ⟨B, He, H0, ρ, b, ds, st, q, k⟩ := h
  obtain ⟨r, e1, q⟩ := Option.bind_eq_some_iff.mp q
  obtain ⟨⟨t, ds'⟩, e2, q⟩ := Option.map_eq_some_iff.mp q
  cases q
  cases t with
  | false =>
    refine (pi_list (PE.inv he)).run pins s σ H R I ⟨B, He, H0, ρ, r, st, e1, fun v H0' H' x w ⟨pins', s', I'⟩ => ?_⟩
    obtain ⟨H0'', p, vs, rfl, x', s2, hp, hb, rr⟩ := seq_it x w e2
    exact ⟨p, rfl, ⟨vs, SqL.of hp⟩, k _ H0'' H' x' (isIt_list hb rr) (lenD I' hp rr)⟩
  | true =>
    refine (pi_tup (PE.inv he)).run pins s σ H R I ⟨B, He, H0, ρ, r, st, e1, fun v H0' H' x w ⟨pins', s', I'⟩ => ?_⟩
    obtain ⟨H0'', p, vs, rfl, x', s2, hp, hb, rr⟩ := seq_it x w e2
    exact ⟨p, rfl, ⟨vs, SqT.of hp⟩, k _ H0'' H' x' (isIt_tup hb rr) (lenD I' hp rr)⟩
/-- reversed(e) -/
def revI (r : R) : Option (Bool × List D) := (toSeq r).map fun s => (stillR r, s.2.reverse)
theorem pr_reversed {p pos : Pos} (hg : Gl X "reversed") (hm : X.mg "reversed" = none) (he : PE X e (tR X.K f)) (hs : starEach [e] X.env = (false, eval e X.env) :: starEach [] X.env) : PI X tg (.Call (.Name "reversed" p) [e] [] pos) (iD X.K fun ρ => (f ρ).bind revI) := by
  refine ⟨fun pins s σ H R I h => ?_⟩
  obtain ⟨B, He, H0, ρ, b, ds, st, q, k⟩ := h
  obtain ⟨r, e1, q⟩ := Option.bind_eq_some_iff.mp q
  obtain ⟨⟨t, ds'⟩, e2, q⟩ := Option.map_eq_some_iff.mp q
  cases q
  refine (RT.pi_revA hg hm (PE.inv he) hs).run pins s σ H R I ⟨B, He, H0, ρ, r, st, e1, fun v H0' H' x w ⟨pins', s', I'⟩ => ?_⟩
  obtain ⟨H0'', p, vs, rfl, x', s2, hp, hb, rr⟩ := seq_it x w e2
  refine ⟨p, vs, rfl, ?_⟩
  have hl := lenD I' hp rr
  cases t with
  | false => exact .inl ⟨SqL.of hp, k _ H0'' H' x' (isIt_revL hb rr) (by rw [List.length_reverse]; exact hl)⟩
  | true => exact .inr ⟨SqT.of hp, k _ H0'' H' x' (isIt_revT hb rr) (by rw [List.length_reverse]; exact hl)⟩
/-- enumerate(e) -/
def enumI (r : R) : Option (Bool × List D) := (toSeq r).map fun s => (stillR r, enumD s.2)
theorem pr_enum {elts : List Expr} {kk : Nat} {tpos p pos : Pos} (hg : Gl X "enumerate") (hm : X.mg "enumerate" = none) (he : PE X e (tR X.K f)) (hs : starEach [e] X.env = [(false, eval e X.env)]) : PI X (.Tuple elts kk tpos) (.Call (.Name "enumerate" p) [e] [] pos) (iD X.K fun ρ => (f ρ).bind enumI) := by
  refine ⟨fun pins s σ H R I h => ?_⟩
  obtain ⟨B, He, H0, ρ, b, ds, st, q, k⟩ := h
  obtain ⟨r, e1, q⟩ := Option.bind_eq_some_iff.mp q
  obtain ⟨⟨t, ds'⟩, e2, q⟩ := Option.map_eq_some_iff.mp q
  cases q
  have ha : PA X [e] (tCons (fun σ H Q => tR X.K f σ H fun v H' => (∃ (pins : List (Addr × Obj)) (s : Shared), Inv X pins σ H' s) → Q v H') tNil) := pa_cons (PE.inv he) pa_nil (by rw [hs]; rfl)
  cases t with
  | false =>
    refine (pi_enum hg hm ha hs).run pins s σ H R I ⟨B, He, H0, ρ, r, st, e1, fun v H0' H' x w ⟨pins', s', I'⟩ => ?_⟩
    obtain ⟨H0'', p, vs, rfl, x', s2, hp, hb, rr⟩ := seq_it x w e2
    exact ⟨p, vs, rfl, SqL.of hp, k _ H0'' H' x' (isIt_enumL hb rr) (by rw [enumD_length]; exact lenD I' hp rr)⟩
  | true =>
    refine Call_ (ld_blt I hg hm boot_enumerate (PyProof.Rows.callWith_type1 (thn (ha.run pos pins s σ H (fun xs H1 => ∃ a ys, xs = [.ref a] ∧ SqT X.K H1 a ys ∧ R (IteT X.K a) H1) I ⟨B, He, H0, ρ, r, st, e1, fun v H0' H' x w ⟨pins', s', I'⟩ => ?_⟩) fun us s1 ⟨vs, H1, I1, r1, q1⟩ => ?_) hs rfl))
    · obtain ⟨H0'', p, vs, rfl, x', s2, hp, hb, rr⟩ := seq_it x w e2
      exact ⟨p, vs, rfl, SqT.of hp, k _ H0'' H' x' (isIt_enumT hb rr) (by rw [enumD_length]; exact lenD I' hp rr)⟩
    · obtain ⟨a, xs, ex, hq, q⟩ := q1
      subst ex
      cases r1 with
      | cons r rr =>
        cases rr
        cases r
        obtain ⟨its, rv, p', hz⟩ := I1.tuple hq
        refine enum_begins1 (begins_tuple a its.toArray) p' fun h' he hit hsz hk => wpAny_pyIter_enum he ?_
        have I2 : Inv X pins σ H1 { s1 with heap := h' } := I1.kept (t' := s1.toks) hk
        have ha : a < s1.heap.objs.size := by obtain ⟨o, ho, _⟩ := p'; exact Heap.lt_size ho
        refine ⟨s1.heap.objs.size + 1, [s1.heap.objs.size + 1, s1.heap.objs.size], _, _, H1, rfl, I2, turn_enumT a (s1.heap.objs.size + 1) s1.heap.objs.size, ⟨⟨.none, he⟩, ⟨_, hit, rfl, rfl⟩, Nat.succ_ne_self _, Nat.ne_of_lt ha, Nat.ne_of_gt (Nat.lt_succ_of_lt ha)⟩, fun b hb => ?_, q⟩
        have e' : b = s1.heap.objs.size + 1 ∨ b = s1.heap.objs.size := by simpa using hb
        have hle : s1.heap.objs.size ≤ b := by
          rcases e' with z | z
          · rw [z]; exact Nat.le_add_right _ _
          · rw [z]; exact Nat.le_refl _
        exact I1.fpOk hle (I1.hok.fresh hle)
/-- range(..) -/
def rng1I : List R → Option (Bool × List D)
  | [x] => (toInt x).bind fun j => if j ≤ 16777216 ∧ -(2 ^ 62) ≤ j then some (true, rngD 0 j.toNat) else none
  | _ => none
def rng2I : List R → Option (Bool × List D)
  | [x, y] => (toInt x).bind fun i => (toInt y).bind fun j => if (-(2 ^ 62) ≤ i ∧ i < 2 ^ 62 ∧ -(2 ^ 62) ≤ j ∧ j < 2 ^ 62) ∧ (j - i).toNat ≤ 16777216 then some (true, rngD i (j - i).toNat) else none
  | _ => none
/-- range(i, j, -1) -/
def rng3I : List R → Option (Bool × List D)
  | [x, y, z] => (toInt x).bind fun i => (toInt y).bind fun j => (toInt z).bind fun c => if ((-(2 ^ 62) ≤ i ∧ i < 2 ^ 62 ∧ -(2 ^ 62) ≤ j ∧ j < 2 ^ 62) ∧ (i - j).toNat ≤ 16777216) ∧ c = -1 then some (true, rngC i (-1) (i - j).toNat) else none
  | _ => none
theorem rngD_length (lo : Int) (n : Nat) : (rngD lo n).length = n := by simp [rngD]
theorem rngC_length (lo c : Int) (n : Nat) : (rngC lo c n).length = n := by simp [rngC]
variable {es : List Expr} {fa : Env → Option (List R)} {p pos : Pos}
theorem pr_rng1 {a : Expr} (hg : Gl X "range") (hm : X.mg "range" = none) (ha : PA X [a] (tA X.K fa)) (hs : starEach [a] X.env = [(false, eval a X.env)]) : PI X tg (.Call (.Name "range" p) [a] [] pos) (iD X.K fun ρ => (fa ρ).bind rng1I) := by
  refine ⟨fun pins s σ H R I h => ?_⟩
  obtain ⟨B, He, H0, ρ, b, ds, st, q, k⟩ := h
  obtain ⟨rs, e1, q⟩ := Option.bind_eq_some_iff.mp q
  refine (pi_range1 hg hm ha hs).run pins s σ H R I ⟨B, He, H0, ρ, rs, st, e1, fun vs H0' H' x w => ?_⟩
  cases rs with
  | nil => cases q
  | cons r1 t => cases t with
    | cons _ _ => cases q
    | nil =>
      obtain ⟨j, e2, q⟩ := Option.bind_eq_some_iff.mp q
      split at q
      · rename_i c
        cases q
        obtain ⟨v, rfl, w1⟩ := AllV.one w
        exact ⟨j, by rw [w1.toInt e2], by omega, by omega, k _ H0' H' x isIt_rng (by rw [rngD_length]; have := sizeLine_eq; omega)⟩
      · cases q
theorem pr_rng2 {a c : Expr} (hg : Gl X "range") (hm : X.mg "range" = none) (ha : PA X [a, c] (tA X.K fa)) (hs : starEach [a, c] X.env = [(false, eval a X.env), (false, eval c X.env)]) (hs2 : starEach [c] X.env = [(false, eval c X.env)]) : PI X tg (.Call (.Name "range" p) [a, c] [] pos) (iD X.K fun ρ => (fa ρ).bind rng2I) := by
  refine ⟨fun pins s σ H R I h => ?_⟩
  obtain ⟨B, He, H0, ρ, b, ds, st, q, k⟩ := h
  obtain ⟨rs, e1, q⟩ := Option.bind_eq_some_iff.mp q
  refine (pi_range2 hg hm ha hs hs2).run pins s σ H R I ⟨B, He, H0, ρ, rs, st, e1, fun vs H0' H' x w => ?_⟩
  cases rs with
  | nil => cases q
  | cons r1 t => cases t with
    | nil => cases q
    | cons r2 t => cases t with
      | cons _ _ => cases q
      | nil =>
        obtain ⟨i, e2, q⟩ := Option.bind_eq_some_iff.mp q
        obtain ⟨j, e3, q⟩ := Option.bind_eq_some_iff.mp q
        split at q
        · rename_i c
          cases q
          obtain ⟨v, v2, rfl, w1, w2⟩ := AllV.two w
          exact ⟨i, j, by rw [w1.toInt e2, w2.toInt e3], c.1, k _ H0' H' x isIt_rng (by rw [rngD_length]; have := sizeLine_eq; omega)⟩
        · cases q
theorem pr_rng3 {a c d : Expr} (hg : Gl X "range") (hm : X.mg "range" = none) (ha : PA X [a, c, d] (tA X.K fa)) (hs : starEach [a, c, d] X.env = (false, eval a X.env) :: starEach [c, d] X.env) (hpl : (backTo pos (starEach [c, d] X.env)).any (·.1) = false) : PI X tg (.Call (.Name "range" p) [a, c, d] [] pos) (iD X.K fun ρ => (fa ρ).bind rng3I) := by
  refine ⟨fun pins s σ H R I h => ?_⟩
  obtain ⟨B, He, H0, ρ, b, ds, st, q, k⟩ := h
  obtain ⟨rs, e1, q⟩ := Option.bind_eq_some_iff.mp q
  refine (pi_range3 hg hm ha hs hpl).run pins s σ H R I ⟨B, He, H0, ρ, rs, st, e1, fun vs H0' H' x w => ?_⟩
  cases rs with
  | nil => cases q
  | cons r1 t => cases t with
    | nil => cases q
    | cons r2 t => cases t with
      | nil => cases q
      | cons r3 t => cases t with
        | cons _ _ => cases q
        | nil =>
          obtain ⟨i, e2, q⟩ := Option.bind_eq_some_iff.mp q
          obtain ⟨j, e3, q⟩ := Option.bind_eq_some_iff.mp q
          obtain ⟨c, e4, q⟩ := Option.bind_eq_some_iff.mp q
          split at q
          · rename_i c'
            obtain ⟨c', rfl⟩ := c'
            cases q
            cases w with
            | cons w1 w => cases w with
              | cons w2 w => cases w with
                | cons w3 w =>
                  cases w
                  exact ⟨i, j, -1, _, by rw [View.toInt w1 e2, View.toInt w2 e3, View.toInt w3 e4], RgC.neg c'.1.1 c'.1.2.1 c'.1.2.2.1 c'.1.2.2.2, k _ H0' H' x isIt_rngC (by rw [rngC_length]; have := sizeLine_eq; omega)⟩
          · cases q
end
end Kd

/-! Kd7: targets, list comprehensions, displays. -/
namespace Kd
open PySem PySem.Spec PyProof.Rows L2

/-! ### slots -/
def ixOf : List Str → Str → Option Nat
  | [], _ => none
  | y :: r, x => if y = x then some 0 else (ixOf r x).map (· + 1)
theorem ixOf_get : ∀ {N : List Str} {x : Str} {i : Nat}, ixOf N x = some i → N[i]? = some x
  | [], _, _, e => by cases e
  | y :: r, x, i, e => by
    unfold ixOf at e
    split at e
    · rename_i h
      cases e
      simp [h]
    · obtain ⟨j, e1, rfl⟩ := Option.map_eq_some_iff.mp e
      have := ixOf_get e1
      simpa using this
def wipeE (ρ : Env) : List Nat → Env
  | [] => ρ
  | v :: vs => (wipeE ρ vs).set v none
theorem wipeE_length (ρ : Env) : ∀ vs : List Nat, (wipeE ρ vs).length = ρ.length
  | [] => rfl
  | v :: vs => by unfold wipeE; rw [List.length_set, wipeE_length ρ vs]
theorem wipeE_some {ρ : Env} {i : Nat} {x : R} : ∀ {vs : List Nat}, (wipeE ρ vs)[i]? = some (some x) → ρ[i]? = some (some x) ∧ i ∉ vs
  | [], h => ⟨h, by simp⟩
  | v :: vs, h => by
    unfold wipeE at h
    by_cases hi : v = i
    · subst hi
      by_cases hv : v < (wipeE ρ vs).length
      · rw [List.getElem?_set_self hv] at h; cases h
      · rw [List.getElem?_eq_none (by simpa using hv)] at h; cases h
    · rw [List.getElem?_set_ne hi] at h
      obtain ⟨h1, h2⟩ := wipeE_some h
      exact ⟨h1, by simp only [List.mem_cons, not_or]; exact ⟨fun e => hi e.symm, h2⟩⟩
theorem wipe_keep {σ : L2.St} {i : Nat} {x : Option V} : ∀ {vs : List Nat}, σ[i]? = some x → i ∉ vs → (wipe σ vs)[i]? = some x
  | [], h, _ => h
  | v :: vs, h, n => by
    unfold wipe
    simp only [List.mem_cons, not_or] at n
    rw [List.getElem?_set_ne (Ne.symm n.1)]
    exact wipe_keep h n.2
theorem wipe_set {σ : L2.St} {i : Nat} {x : Option V} : ∀ {vs : List Nat}, i ∈ vs → wipe (σ.set i x) vs = wipe σ vs
  | v :: vs, h => by
    unfold wipe
    by_cases hi : i ∈ vs
    · rw [wipe_set hi]
    · have e : i = v := (List.mem_cons.mp h).resolve_right hi
      subst e
      have q : ∀ vs : List Nat, i ∉ vs → wipe (σ.set i x) vs = (wipe σ vs).set i x := by
        intro vs
        induction vs with
        | nil => intro _; rfl
        | cons u us ih =>
          intro n
          simp only [List.mem_cons, not_or] at n
          unfold wipe
          rw [ih n.2, List.set_comm _ _ (Ne.symm n.1).symm]
      rw [q vs hi, List.set_set]
section
variable {K : PySem.W.Frag} {B He H0 H : Hp} {σ : L2.St} {ρ : Env}
theorem Ks.wipe (s : Ks K B He H0 H σ ρ) (vs : List Nat) : Ks K B He H0 H (L2.wipe σ vs) (wipeE ρ vs) := by
  refine ⟨s.ext, by rw [wipe_length, wipeE_length]; exact s.len, fun i r e => ?_, fun i j r r' p e1 e2 o1 o2 h1 h2 => ?_⟩
  · obtain ⟨e, n⟩ := wipeE_some e
    obtain ⟨v, a, b⟩ := s.slot i r e
    exact ⟨v, wipe_keep a n, b⟩
  · exact s.dist i j r r' p (wipeE_some e1).1 (wipeE_some e2).1 o1 o2 (wipe_some h1).1 (wipe_some h2).1
/-- a slot is set to a datum -/
theorem Ks.setV (s : Ks K B He H0 H σ ρ) {v : V} {d : D} (r : Rp H0 v d) (i : Nat) : Ks K B He H0 H (σ.set i (some v)) (ρ.set i (some (.v d))) := by
  refine ⟨s.ext, by rw [List.length_set, List.length_set]; exact s.len, fun j q e => ?_, fun j l q q' p e1 e2 o1 o2 h1 h2 => ?_⟩
  · by_cases hj : i = j
    · subst hj
      by_cases hi : i < ρ.length
      · rw [List.getElem?_set_self hi] at e
        cases e
        exact ⟨v, by rw [List.getElem?_set_self (by rw [s.len]; exact hi)], r, (fun o => by cases o), fun _ => r⟩
      · rw [List.getElem?_eq_none (by simpa using hi)] at e; cases e
    · rw [List.getElem?_set_ne hj] at e ⊢
      exact s.slot j q e
  · have ne : ∀ {j : Nat} {q : R}, (ρ.set i (some (.v d)))[j]? = some (some q) → isOwn q = true → i ≠ j := fun {j q} e o hj => by
      subst hj
      by_cases hi : i < ρ.length
      · rw [List.getElem?_set_self hi] at e; cases e; cases o
      · rw [List.getElem?_eq_none (by simpa using hi)] at e; cases e
    have n1 := ne e1 o1
    have n2 := ne e2 o2
    rw [List.getElem?_set_ne n1] at e1 h1
    rw [List.getElem?_set_ne n2] at e2 h2
    exact s.dist j l q q' p e1 e2 o1 o2 h1 h2
/-- a slot is set to the result of an expression -/
def stoR : R → Bool
  | .v _ => true
  | .own _ => true
  | .dic _ => true
  | _ => false
theorem Ks.setR {Hp0 Hp1 : Hp} (s : Ks K B He Hp0 Hp1 σ ρ) (x : Ext Hp0 Hp1 H0 H) {v : V} {r : R} (w : Res K Hp1 H0 H v r) (hs : stoR r = true) (i : Nat) : Ks K B He H0 H (σ.set i (some v)) (ρ.set i (some r)) := by
  have s' := s.step x
  have sl : Slot K He H0 H v r := ⟨w.1, (w.weak s.ext.keep).2, fun o => by
    cases r with
    | v d => exact w.1
    | own d => cases o
    | dic d => cases o
    | _ => cases hs⟩
  refine ⟨s'.ext, by rw [List.length_set, List.length_set]; exact s'.len, fun j q e => ?_, fun j l q q' p e1 e2 o1 o2 h1 h2 => ?_⟩
  · by_cases hj : i = j
    · subst hj
      by_cases hi : i < ρ.length
      · rw [List.getElem?_set_self hi] at e
        cases e
        exact ⟨v, by rw [List.getElem?_set_self (by rw [s.len]; exact hi)], sl⟩
      · rw [List.getElem?_eq_none (by simpa using hi)] at e; cases e
    · rw [List.getElem?_set_ne hj] at e ⊢
      exact s'.slot j q e
  · -- an own thing elsewhere stood ahead, this one is new
    have key : ∀ {j : Nat} {q : R} {p : Addr}, i ≠ j → ρ[j]? = some (some q) → isOwn q = true → σ[j]? = some (some (.ref p)) → v = .ref p → isOwn r = true → False := fun {j q p} hj e o h ev ow => by
      obtain ⟨v', a, b⟩ := s.slot j q e
      rw [h] at a
      cases a
      obtain ⟨p', u, ep, hp⟩ := b.1.there o
      cases ep
      obtain ⟨p'', e'', hn, _⟩ := w.2 ow
      rw [ev] at e''
      cases e''
      rw [hn] at hp
      cases hp
    have here : ∀ {q : R} {p : Addr}, (ρ.set i (some r))[i]? = some (some q) → (σ.set i (some v))[i]? = some (some (.ref p)) → q = r ∧ v = .ref p := fun {q p} e h => by
      by_cases hi : i < ρ.length
      · rw [List.getElem?_set_self hi] at e
        rw [List.getElem?_set_self (by rw [s.len]; exact hi)] at h
        cases e; cases h; exact ⟨rfl, rfl⟩
      · rw [List.getElem?_eq_none (by simpa using hi)] at e; cases e
    by_cases hj : i = j
    · by_cases hl : i = l
      · exact hj.symm.trans hl
      · subst hj
        obtain ⟨rfl, ev⟩ := here e1 h1
        rw [List.getElem?_set_ne hl] at e2 h2
        exact (key hl e2 o2 h2 ev o1).elim
    · rw [List.getElem?_set_ne hj] at e1 h1
      by_cases hl : i = l
      · subst hl
        obtain ⟨rfl, ev⟩ := here e2 h2
        exact (key hj e1 o1 h1 ev o2).elim
      · rw [List.getElem?_set_ne hl] at e2 h2
        exact s.dist j l q q' p e1 e2 o1 o2 h1 h2
end

/-! ### targets -/
/-- a target's reading: the datum goes to slots, all of them among ts -/
def gD (K : PySem.W.Frag) (ts : List Nat) (b : D → Env → Option Env) : TG := fun v σ H Q => ∃ B He H0 ρ d ρ', Ks K B He H0 H σ ρ ∧ Rp H0 v d ∧ b d ρ = some ρ' ∧
  ∀ σ', Ks K B He H0 H σ' ρ' → (∀ vs : List Nat, (∀ i ∈ ts, i ∈ vs) → wipe σ' vs = wipe σ vs) → Q σ' H
def gDs (K : PySem.W.Frag) (ts : List Nat) (b : List D → Env → Option Env) : TGs := fun vs σ H Q => ∃ B He H0 ρ ds ρ', Ks K B He H0 H σ ρ ∧ RpAll H0 vs ds ∧ b ds ρ = some ρ' ∧
  ∀ σ', Ks K B He H0 H σ' ρ' → (∀ vs : List Nat, (∀ i ∈ ts, i ∈ vs) → wipe σ' vs = wipe σ vs) → Q σ' H
def plainE : Expr → Bool
  | .Starred .. => false
  | _ => true
theorem starEach_plain {e : Expr} {es : List Expr} {env : PySem.Env} (h : plainE e = true) : starEach (e :: es) env = (false, eval e env) :: starEach es env := by
  cases e <;> first | rfl | cases h
theorem assignEach_plain {e : Expr} {es : List Expr} {env : PySem.Env} (h : plainE e = true) : assignEach (e :: es) env = (false, assign e env) :: assignEach es env := by
  cases e <;> first | rfl | cases h
theorem assignEach_facts {env : PySem.Env} : ∀ {es : List Expr}, es.all plainE = true → (assignEach es env).length = es.length ∧ (assignEach es env).findIdx? (·.1) = none
  | [], _ => ⟨rfl, rfl⟩
  | e :: es, h => by
    simp only [List.all_cons, Bool.and_eq_true] at h
    obtain ⟨a, b⟩ := assignEach_facts (env := env) h.2
    rw [assignEach_plain h.1]
    exact ⟨by simp [a], by simp [List.findIdx?_cons, b]⟩
theorem PG.imp {X : Cx} {tg : Expr} {t t' : TG} (h : PG X tg t) (i : ∀ v σ H Q, t' v σ H Q → t v σ H Q) : PG X tg t' := ⟨fun pins s σ H v u Q I r q => h.run pins s σ H v u Q I r (i v σ H Q q)⟩
theorem PGs.imp {X : Cx} {tg : List Expr} {t t' : TGs} (h : PGs X tg t) (i : ∀ v σ H Q, t' v σ H Q → t v σ H Q) : PGs X tg t' := ⟨fun pins s σ H v u Q I r q => h.run pins s σ H v u Q I r (i v σ H Q q)⟩
section
variable {X : Cx}
theorem pgd_name {i : Nat} {x : Str} {pos : Pos} (hN : X.N.Nodup) (hi : X.N[i]? = some x) (hx : Loc X.env.scope x) (hf : X.fn x = true ∨ X.env.scope.names.lookup x = some .local) : PG X (.Name x pos) (gD X.K [i] fun d ρ => some (ρ.set i (some (.v d)))) :=
  PG.imp (pg_name hN hi hx hf) fun v σ H Q ⟨B, He, H0, ρ, d, ρ', s, r, e, k⟩ => by
    cases e
    exact k _ (s.setV r i) fun vs h => wipe_set (h i (by simp))
theorem pgd_nil : PGs X [] (gDs X.K [] fun ds ρ => match ds with | [] => some ρ | _ => none) :=
  PGs.imp pgs_nil fun vs σ H Q ⟨B, He, H0, ρ, ds, ρ', s, r, e, k⟩ => by
    cases r with
    | nil => cases e; exact ⟨rfl, k σ s fun _ _ => rfl⟩
    | cons _ _ => cases e
theorem pgd_cons {e : Expr} {es : List Expr} {t1 t2 : List Nat} {b1 : D → Env → Option Env} {b2 : List D → Env → Option Env} (h1 : PG X e (gD X.K t1 b1)) (h2 : PGs X es (gDs X.K t2 b2)) (hp : plainE e = true) :
    PGs X (e :: es) (gDs X.K (t1 ++ t2) fun ds ρ => match ds with | d :: r => (b1 d ρ).bind (b2 r) | _ => none) :=
  PGs.imp (pgs_cons h1 h2 (by rw [assignEach_plain hp]; rfl)) fun vs σ H Q ⟨B, He, H0, ρ, ds, ρ', s, r, e, k⟩ => by
    cases r with
    | nil => cases e
    | cons r rr =>
      obtain ⟨ρ1, e1, e2⟩ := Option.bind_eq_some_iff.mp e
      refine ⟨_, _, rfl, B, He, H0, ρ, _, ρ1, s, r, e1, fun σ1 s1 w1 => ?_⟩
      exact ⟨B, He, H0, ρ1, _, ρ', s1, rr, e2, fun σ2 s2 w2 => k σ2 s2 fun vs hv => (w2 vs fun i hi => hv i (List.mem_append_right _ hi)).trans (w1 vs fun i hi => hv i (List.mem_append_left _ hi))⟩
theorem pgd_tup {es : List Expr} {k : Nat} {pos : Pos} {ts : List Nat} {b : List D → Env → Option Env} (hc : X.calm = true) (h : PGs X es (gDs X.K ts b)) (hp : es.all plainE = true) :
    PG X (.Tuple es k pos) (gD X.K ts fun d ρ => match d with | .tuple ds => if ds.length = es.length then b ds ρ else none | _ => none) :=
  PG.imp (pg_tup hc h (assignEach_facts hp).1 (assignEach_facts hp).2) fun v σ H Q ⟨B, He, H0, ρ, d, ρ', s, r, e, k⟩ => by
    cases d with
    | tuple ds =>
      cases r with
      | tup hq ra =>
        dsimp only at e
        split at e
        · rename_i hl
          exact ⟨_, _, rfl, SqT.of (s.ext.sub _ _ hq), by rw [ra.length]; exact hl, B, He, H0, ρ, ds, ρ', s, ra, e, k⟩
        · cases e
    | _ => cases e
end

/-! ### list comprehensions -/
def compL (step : D → Option (Option D)) : List D → Option (List D)
  | [] => some []
  | d :: ds => (step d).bind fun o => (compL step ds).bind fun r => some (match o with | some z => z :: r | none => r)
/-- one turn: the target, the test, the element -/
def turnC (b : D → Env → Option Env) (ft : Env → Option Bool) (fe : Env → Option D) (ρ : Env) (d : D) : Option (Option D) :=
  (b d ρ).bind fun ρ' => (ft ρ').bind fun c => if c = true then (fe ρ').map some else some none
theorem PTs.imp {X : Cx} {ifs : List Expr} {t t' : TT} (h : PTs X ifs t) (i : ∀ σ H Q, t' σ H Q → t σ H Q) : PTs X ifs t' := ⟨fun pins s σ H Q I q => h.run pins s σ H Q I (i σ H Q q)⟩
section
variable {X : Cx} {elt tg iter : Expr} {ifs : List Expr} {scope : Scope} {own : List (Str × Nat)} {pos : Pos} {fi : Env → Option (Bool × List D)} {ts : List Nat} {b : D → Env → Option Env} {ft : Env → Option Bool} {fe : Env → Option D}
theorem tLc_of {K : PySem.W.Frag} {vs : List Nat} (hts : ∀ i ∈ ts, i ∈ vs) {σ : L2.St} {H : Hp} {Q : VK}
    (h : tR K (fun ρ => (fi ρ).bind fun s => (compL (turnC b ft fe (wipeE ρ vs)) s.2).map .own) σ H Q) : tLc (iD K fi) (gD K ts b) (tT K ft) (tV K fe) vs σ H Q := by
  obtain ⟨B, He, H0, ρ, r, st, q, k⟩ := h
  obtain ⟨⟨bb, ds⟩, e1, q⟩ := Option.bind_eq_some_iff.mp q
  obtain ⟨out, e2, rfl⟩ := Option.map_eq_some_iff.mp q
  refine ⟨B, He, H0, ρ, bb, ds, st, e1, fun J H0' H' x it hz D hD => ?_⟩
  have hb0 : ∀ {H0i Hi : Hp}, Same H0' H0i → Same H' Hi → Same H0i Hi → Same (if bb = true then H0' else H') Hi := fun {H0i Hi} a1 a2 a3 => by
    cases bb with
    | true => exact a1.trans a3
    | false => exact a2
  refine ⟨fun i m Hi => m = ds.length - i ∧ i ≤ ds.length ∧ ∃ H0i acc done rest, Ext H0 H H0i Hi ∧ Same H0' H0i ∧ Same H' Hi ∧ Hi D = some (.lst acc) ∧ H0i D = none ∧ RpAll H0i acc done ∧ done.length ≤ i ∧ compL (turnC b ft fe (wipeE ρ vs)) (ds.drop i) = some rest ∧ done ++ rest = out, ?_, ?_⟩
  · exact ⟨ds.length, by simp, Nat.zero_le _, H0', [], [], out, x.new hD, Same.refl _, fun c u e => by rw [upd_ne (ne_of_none e hD)]; exact e, upd_same, x.sub.free hD, .nil, Nat.le_refl _, by simpa using e2, by simp⟩
  · rintro i m Hi ⟨rfl, hi, H0i, acc, done, rest, xi, s0i, si, hDi, h0D, ra, hdl, er, eo⟩
    have hHD : H D = none := x.keep.free hD
    by_cases hlt : i < ds.length
    · refine .inr ⟨it.go i H0i Hi s0i xi.sub (hb0 s0i si xi.sub) hlt, ?_⟩
      refine ⟨fun Hn => ∃ H0n acc done rest, Ext H0 H H0n Hn ∧ Same H0' H0n ∧ Same H' Hn ∧ Hn D = some (.lst acc) ∧ H0n D = none ∧ RpAll H0n acc done ∧ done.length ≤ i + 1 ∧ compL (turnC b ft fe (wipeE ρ vs)) (ds.drop (i + 1)) = some rest ∧ done ++ rest = out, fun Hn hn => ⟨ds.length - (i + 1), by omega, rfl, hlt, hn⟩, fun xv H3 hy => ?_⟩
      obtain ⟨H03, d, ed, x3, r3⟩ := it.yld i H0i Hi xv H3 s0i xi.sub (hb0 s0i si xi.sub) hlt hy
      have edr : ds.drop i = d :: ds.drop (i + 1) := by
        rw [List.drop_eq_getElem_cons hlt]
        congr 1
        have := List.getElem?_eq_getElem hlt
        rw [ed] at this
        exact (Option.some.inj this).symm
      rw [edr] at er
      obtain ⟨o, eo1, er⟩ := Option.bind_eq_some_iff.mp er
      obtain ⟨rest', er', er⟩ := Option.bind_eq_some_iff.mp er
      obtain ⟨ρ1, eb, eo1⟩ := Option.bind_eq_some_iff.mp eo1
      obtain ⟨c, ec, eo1⟩ := Option.bind_eq_some_iff.mp eo1
      have x03 := xi.trans x3
      have nD : ∀ {H0x Hx H0y Hy : Hp}, Ext H0x Hx H0y Hy → H0x D = none → Hx D = some (.lst acc) → H0y D = none := fun {H0x Hx H0y Hy} xx a b => by
        cases z : H0y D with
        | none => rfl
        | some u =>
          rcases xx.newb D u z with y | y
          · rw [a] at y; cases y
          · rw [b] at y; cases y
      have h3D := nD x3 h0D hDi
      have hD3 := x3.keep _ _ hDi
      refine ⟨B, He, H03, wipeE ρ vs, d, ρ1, (st.wipe vs).step x03, r3, eb, fun σ2 s2 w2 => ⟨?_, ?_⟩⟩
      · rw [w2 vs hts]
        clear w2 s2
        -- wiping twice is wiping
        have ww : ∀ (us : List Nat) (τ : L2.St), (∀ i ∈ us, i ∈ us) → wipe (wipe τ us) us = wipe τ us := by
          intro us τ _
          apply List.ext_getElem?
          intro j
          have lw : (wipe (wipe τ us) us).length = (wipe τ us).length := wipe_length _ _
          by_cases hj : j < (wipe τ us).length
          · obtain ⟨z, ez⟩ : ∃ z, (wipe τ us)[j]? = some z := ⟨_, List.getElem?_eq_getElem hj⟩
            rw [ez]
            cases z with
            | some v =>
              exact wipe_keep ez (wipe_some ez).2
            | none =>
              obtain ⟨z2, ez2⟩ : ∃ z, (wipe (wipe τ us) us)[j]? = some z := ⟨_, List.getElem?_eq_getElem (by rw [lw]; exact hj)⟩
              rw [ez2]
              cases z2 with
              | none => rfl
              | some v2 =>
                have := (wipe_some ez2).1
                rw [ez] at this
                cases this
          · rw [List.getElem?_eq_none (by omega), List.getElem?_eq_none (by omega)]
        exact ww vs σ fun _ h => h
      · refine ⟨B, He, H03, ρ1, c, s2, ec, fun H04 H4 x4 => ?_⟩
        have x04 := x03.trans x4
        have h4D := nD x4 h3D hD3
        have hD4 := x4.keep _ _ hD3
        have s04 : Same H0' H04 := s0i.trans (x3.base.trans x4.base)
        have s4 : Same H' H4 := si.trans (x3.keep.trans x4.keep)
        dsimp only
        split
        · rename_i hc
          rw [if_pos hc] at eo1
          obtain ⟨z, ez, rfl⟩ := Option.map_eq_some_iff.mp eo1
          cases er
          refine ⟨B, He, H04, ρ1, z, s2.step x4, ez, fun y H05 H5 x5 r5 => ?_⟩
          have h5D := nD x5 h4D hD4
          have hD5 := x5.keep _ _ hD4
          have x05 := x04.trans x5
          have sbase : Same H0i H05 := x3.base.trans (x4.base.trans x5.base)
          have hl : acc.length < sizeLine := by
            rw [ra.length]
            omega
          refine ⟨acc, hD5, hl, H05, acc ++ [y], done ++ [z], rest', ?_, s04.trans x5.base, ?_, upd_same, h5D, (RpAll.mono sbase _ _ ra).snoc r5, by simp; omega, er', by simpa using eo⟩
          · refine ⟨fun c u e => ?_, x05.base, fun c u e => ?_, x05.newb⟩
            · rw [upd_ne (ne_of_none e hHD)]; exact x05.keep c u e
            · rw [upd_ne (ne_of_none e h5D)]; exact x05.sub c u e
          · intro c u e
            rw [upd_ne (ne_of_none e hD)]
            exact (s4.trans x5.keep) c u e
        · rename_i hc
          rw [if_neg hc] at eo1
          cases eo1
          cases er
          exact ⟨H04, acc, done, rest', x04, s04, s4, hD4, h4D, RpAll.mono (x3.base.trans x4.base) _ _ ra, by omega, er', eo⟩
    · have e : i = ds.length := by omega
      subst e
      rw [List.drop_eq_nil_of_le (Nat.le_refl _)] at er
      cases er
      rw [List.append_nil] at eo
      subst eo
      exact .inl ⟨it.stop _ H0i Hi s0i xi.sub (hb0 s0i si xi.sub) rfl, k _ H0i Hi xi ⟨⟨D, acc, rfl, hDi, ra⟩, fun _ => ⟨D, rfl, hHD, h0D⟩⟩⟩
end
end Kd

/-! Kd8: the evaluator of expressions. -/
namespace Kd
open PySem PySem.Spec PyProof.Rows L2

/-- what is known of the module: its defs (how many parameters, what they give), built-in names that it does not bind -/
structure Tab where
  fns : Str → Option (Nat × (List R → Option R))
  free : List Str

def glB (sc : Scope) (x : Str) : Bool := decide (sc.names.lookup x = some .globalImplicit)
def visB (sc : Scope) (x : Str) : Bool := decide (sc.names.lookup x = some .local) || decide (sc.names.lookup x = some .cell) || decide (sc.names.lookup x = some .free)
def okN (x : Str) : Bool := !(x == ("__debug__" : Str)) && !(x == ("__classdict__" : Str)) && !(x == ("__name__" : Str))
def locB (sc : Scope) (fn : Str → Bool) (x : Str) : Bool := decide (sc.names.lookup x = some .local) || (decide (sc.names.lookup x = some .cell) && fn x)
def readR : R → R
  | .own ds => .bor ds
  | .dic ks => .bdi ks
  | r => r
def toBool : R → Option Bool
  | .v (.bool b) => some b
  | _ => none
def getE (ρ : Env) (i : Nat) : Option R := (ρ[i]?).bind id
def varE (N : List Str) (sc : Scope) (ρ : Env) (x : Str) : Option R := if (visB sc x && okN x) = true then (ixOf N x).bind fun i => (getE ρ i).map readR else none
def isSetE : Expr → Bool
  | .Set .. => true
  | _ => false
def allVs : List R → Option (List D)
  | [] => some []
  | .v d :: r => (allVs r).map (d :: ·)
  | _ => none
def maxA : List R → Option R
  | [x] => maxR x
  | [x, y] => max2R x y
  | _ => none
def minA : List R → Option R
  | [x] => minR x
  | [x, y] => min2R x y
  | _ => none
/-- built-in calls: by name; true: a class -/
def blt (x : Str) : Option (Bool × String × (List R → Option R)) :=
  if x = ("len" : Str) then some (false, "len", oneR lenR)
  else if x = ("int" : Str) then some (true, "int", oneR intR)
  else if x = ("tuple" : Str) then some (true, "tuple", oneR tupleR)
  else if x = ("list" : Str) then some (true, "list", oneR listR)
  else if x = ("sum" : Str) then some (false, "sum", oneR sumR)
  else if x = ("abs" : Str) then some (false, "abs", oneR absR)
  else if x = ("min" : Str) then some (false, "min", minA)
  else if x = ("max" : Str) then some (false, "max", maxA)
  else if x = ("sorted" : Str) then some (false, "sorted", oneR (sortR false))
  else if x = ("all" : Str) then some (false, "all", oneR allLR)
  else if x = ("any" : Str) then some (false, "any", oneR anyLR)
  else none
def isiS (x : Str) : Option String :=
  if x = ("int" : Str) then some "int" else if x = ("bool" : Str) then some "bool" else if x = ("str" : Str) then some "str" else if x = ("tuple" : Str) then some "tuple" else if x = ("list" : Str) then some "list" else none

/-! targets -/
mutual
def bindT (N : List Str) (sc : Scope) (fn : Str → Bool) : Nat → Expr → D → Env → Option Env
  | 0, _, _, _ => none
  | n + 1, tg, d, ρ => match tg with
    | .Name x _ => if locB sc fn x = true then (ixOf N x).bind fun i => some (ρ.set i (some (.v d))) else none
    | .Tuple es _ _ => if es.all plainE = true then (match d with
      | .tuple ds => if ds.length = es.length then bindTs N sc fn n es ds ρ else none
      | _ => none) else none
    | _ => none
def bindTs (N : List Str) (sc : Scope) (fn : Str → Bool) : Nat → List Expr → List D → Env → Option Env
  | 0, _, _, _ => none
  | n + 1, es, ds, ρ => match es with
    | [] => (match ds with
      | [] => some ρ
      | _ => none)
    | e :: es => if plainE e = true then (match ds with
      | d :: ds => (bindT N sc fn n e d ρ).bind (bindTs N sc fn n es ds)
      | _ => none) else none
end
mutual
def tgIx (N : List Str) : Nat → Expr → List Nat
  | 0, _ => []
  | n + 1, tg => match tg with
    | .Name x _ => (ixOf N x).toList
    | .Tuple es _ _ => tgIxs N n es
    | _ => []
def tgIxs (N : List Str) : Nat → List Expr → List Nat
  | 0, _ => []
  | n + 1, es => match es with
    | [] => []
    | e :: es => tgIx N n e ++ tgIxs N n es
end
def ownOf (N : List Str) (ts : List Nat) : List (Str × Nat) := ts.filterMap fun i => (N[i]?).map fun x => (x, i)

/-! what a piece of syntax is -/
inductive SlK where
  | ix
  | cut (lo hi : Option Expr)
  | rev
  | no
def slK : Expr → SlK
  | .Slice lo hi none _ => .cut lo hi
  | .Slice none none (some (.UnaryOp .USub (.Constant (.int 1) _ _) _)) _ => .rev
  | .Slice .. => .no
  | _ => .ix
theorem slK_cut {i : Expr} {lo hi : Option Expr} (h : slK i = .cut lo hi) : ∃ p, i = .Slice lo hi none p := by
  unfold slK at h
  split at h <;> first | (cases h; exact ⟨_, rfl⟩) | cases h
theorem slK_rev {i : Expr} (h : slK i = .rev) : ∃ k p1 p2 p3, i = .Slice none none (some (.UnaryOp .USub (.Constant (.int 1) k p1) p2)) p3 := by
  unfold slK at h
  split at h <;> first | exact ⟨_, _, _, _, rfl⟩ | cases h
theorem slK_ix {i : Expr} (h : slK i = .ix) : ∀ a b c d, i ≠ .Slice a b c d := by
  intro a b c d e
  subst e
  unfold slK at h
  split at h
  · cases h
  · cases h
  · cases h
  · rename_i z; exact (z _ _ _ _ rfl).elim
def callN : Expr → List Keyword → Option Str
  | .Name x _, [] => some x
  | _, _ => none
theorem callN_ok {f : Expr} {kws : List Keyword} {x : Str} (h : callN f kws = some x) : ∃ p, f = .Name x p ∧ kws = [] := by
  unfold callN at h
  split at h
  · cases h; exact ⟨_, rfl, rfl⟩
  · cases h
def nameOf : Expr → Option Str
  | .Name x _ => some x
  | _ => none
theorem nameOf_ok {e : Expr} {x : Str} (h : nameOf e = some x) : ∃ p, e = .Name x p := by
  unfold nameOf at h
  split at h
  · cases h; exact ⟨_, rfl⟩
  · cases h
def isTup : Expr → Bool
  | .Tuple .. => true
  | _ => false
def gen1 : List Comprehension → Option (Expr × Expr × List Expr)
  | [⟨tg, it, ifs, a⟩] => if a = 0 then some (tg, it, ifs) else none
  | _ => none
theorem gen1_ok {gs : List Comprehension} {tg it : Expr} {ifs : List Expr} (h : gen1 gs = some (tg, it, ifs)) : gs = [⟨tg, it, ifs, 0⟩] := by
  unfold gen1 at h
  split at h
  · split at h
    · rename_i e; cases h; subst e; rfl
    · cases h
  · cases h
/-- a built-in's call may be looked at -/
def bltB (sc : Scope) (T : Tab) (x : Str) (args : List Expr) : Bool := glB sc x && okN x && args.all plainE && decide (x ∈ T.free)
/-- range(a), range(a, b) as a value -/
def rgArgs (sc : Scope) (T : Tab) : Expr → Option (Expr × Option Expr)
  | .Call f args kws _ => (callN f kws).bind fun x => if bltB sc T x args = true ∧ x = ("range" : Str) then
      (match args with
      | [a] => some (a, none)
      | [a, b] => some (a, some b)
      | _ => none) else none
  | _ => none
theorem rgArgs_ok {sc : Scope} {T : Tab} {e a : Expr} {o : Option Expr} (h : rgArgs sc T e = some (a, o)) : ∃ p pos, e = .Call (.Name ("range" : Str) p) (a :: o.toList) [] pos ∧ bltB sc T ("range" : Str) (a :: o.toList) = true := by
  cases e with
  | Call f args kws pos =>
    have h1 : ((callN f kws).bind fun x => if bltB sc T x args = true ∧ x = ("range" : Str) then
      (match args with
      | [a] => some (a, none)
      | [a, b] => some (a, some b)
      | _ => none) else none) = some (a, o) := h
    clear h
    obtain ⟨x, e1, h2⟩ := Option.bind_eq_some_iff.mp h1
    clear h1
    obtain ⟨p, rfl, rfl⟩ := callN_ok e1
    by_cases hb : bltB sc T x args = true ∧ x = ("range" : Str)
    · rw [if_pos hb] at h2
      obtain ⟨hb, rfl⟩ := hb
      match args, h2, hb with
      | [a'], h2, hb => cases h2; exact ⟨_, _, rfl, hb⟩
      | [a', b'], h2, hb => cases h2; exact ⟨_, _, rfl, hb⟩
    · rw [if_neg hb] at h2; cases h2
  | _ => cases h
def oneArg : List Expr → Option Expr
  | [a] => some a
  | _ => none
theorem oneArg_ok {es : List Expr} {a : Expr} (h : oneArg es = some a) : es = [a] := by
  unfold oneArg at h
  split at h
  · cases h; rfl
  · cases h
def rngI : List R → Option (Bool × List D)
  | [x] => rng1I [x]
  | [x, y] => rng2I [x, y]
  | [x, y, z] => rng3I [x, y, z]
  | _ => none

/-! the evaluator -/
def chainR (op op' : CmpOp) (fa fb fc : Env → Option R) : Env → Option R := fun ρ => (fa ρ).bind fun a => (fb ρ).bind fun b => (cmpR op a b).bind fun r => match r with
  | .v (.bool true) => (fc ρ).bind fun c => cmpR op' b c
  | .v (.bool false) => some (Bl false)
  | _ => none
def fnB (scope : Scope) : Str → Bool := fun x => decide (scope.names.lookup x = some .cell)
instance (a b : Int) : Decidable (RgOk a b) := by unfold RgOk; infer_instance
inductive CmK where
  | one (op : CmpOp) (b : Expr)
  | two (op op' : CmpOp) (b c : Expr)
  | no
def cmK : List CmpOp → List Expr → CmK
  | [op], [b] => if isSetE b = true then .no else .one op b
  | [op, op'], [b, c] => if isSetE c = true then .no else .two op op' b c
  | _, _ => .no
theorem cmK_one {ops : List CmpOp} {cs : List Expr} {op : CmpOp} {b : Expr} (h : cmK ops cs = .one op b) : ops = [op] ∧ cs = [b] ∧ isSetE b = false := by
  unfold cmK at h
  split at h
  · split at h
    · cases h
    · rename_i hs; cases h; exact ⟨rfl, rfl, by simpa using hs⟩
  · split at h <;> cases h
  · cases h
theorem cmK_two {ops : List CmpOp} {cs : List Expr} {op op' : CmpOp} {b c : Expr} (h : cmK ops cs = .two op op' b c) : ops = [op, op'] ∧ cs = [b, c] ∧ isSetE c = false := by
  unfold cmK at h
  split at h
  · split at h <;> cases h
  · split at h
    · cases h
    · rename_i hs; cases h; exact ⟨rfl, rfl, by simpa using hs⟩
  · cases h
mutual
def evE (T : Tab) (N : List Str) : Nat → Scope → (Str → Bool) → Expr → Env → Option R
  | 0, _, _, _ => fun _ => none
  | n + 1, sc, fn, e => match e with
    | .Name x _ => fun ρ => varE N sc ρ x
    | .Constant c _ _ => match c with
      | .int i => fun _ => some (I i)
      | .bool b => fun _ => some (Bl b)
      | .none => fun _ => some Non
      | .str s => fun _ => some (.v (.str s))
      | _ => fun _ => none
    | .BinOp a op b _ => bind2 (evE T N n sc fn a) (evE T N n sc fn b) (binR op)
    | .UnaryOp op a _ => match op with
      | .Not => fun ρ => (evE T N n sc fn a ρ).bind fun r => (truR r).map fun b => Bl (!b)
      | .USub => fun ρ => (evE T N n sc fn a ρ).bind negR
      | _ => fun _ => none
    | .BoolOp op es _ => evV T N n sc fn op es
    | .Compare a ops cs _ => match cmK ops cs with
      | .one op b => bind2 (evE T N n sc fn a) (evE T N n sc fn b) (cmpR op)
      | .two op op' b c => chainR op op' (evE T N n sc fn a) (evE T N n sc fn b) (evE T N n sc fn c)
      | .no => fun _ => none
    | .IfExp c a b _ => fun ρ => (evT T N n sc fn c ρ).bind fun t => if t = true then evE T N n sc fn a ρ else evE T N n sc fn b ρ
    | .Tuple es _ _ => fun ρ => (evA T N n sc fn es ρ).bind fun rs => (allVs rs).bind fun ds => if ds.length ≤ sizeLine then some (.v (.tuple ds)) else none
    | .List es _ => fun ρ => (evA T N n sc fn es ρ).bind fun rs => (allVs rs).bind fun ds => if ds.length ≤ sizeLine then some (.own ds) else none
    | .Subscript a i _ => match slK i with
      | .cut lo hi => fun ρ => (evE T N n sc fn a ρ).bind fun r => (evO T N n sc fn lo ρ).bind fun l => (evO T N n sc fn hi ρ).bind fun h => slR r l h
      | .rev => fun ρ => (evE T N n sc fn a ρ).bind revR
      | .no => fun _ => none
      | .ix => bind2 (evE T N n sc fn a) (evE T N n sc fn i) ixR
    | .Call f args kws _ => match callN f kws with
      | some x => evC T N n sc fn x args
      | none => fun _ => none
    | .ListComp elt gens scope _ => match gen1 gens with
      | some (tg, it, ifs) =>
        if blkC N sc scope (ownOf N (tgIx N 8 tg)) = true ∧ isSetE it = false then
          fun ρ => (evI T N n sc fn tg it ρ).bind fun s =>
            (compL (turnC (bindT N (relS scope sc) (fnB scope) 8 tg) (evF T N n (relS scope sc) (fnB scope) ifs) (fun ρ => (evE T N n (relS scope sc) (fnB scope) elt ρ).bind toV) (wipeE ρ ((ownOf N (tgIx N 8 tg)).map (·.2)))) s.2).map .own
        else fun _ => none
      | none => fun _ => none
    | _ => fun _ => none
/-- calls by name -/
def evC (T : Tab) (N : List Str) : Nat → Scope → (Str → Bool) → Str → List Expr → Env → Option R
  | 0, _, _, _, _ => fun _ => none
  | n + 1, sc, fn, x, args => if (glB sc x && okN x && args.all plainE) = true ∧ args ≠ [] then
      (match T.fns x with
      | some (m, g) => if args.length = m then fun ρ => (evA T N n sc fn args ρ).bind g else fun _ => none
      | none => if x ∈ T.free then
          (match (oneArg args).bind fun a => if (x = ("list" : Str) ∨ x = ("tuple" : Str)) then (rgArgs sc T a).map fun _ => a else none with
          | some a => fun ρ => (evR T N n sc fn a ρ).bind fun s => if x = ("list" : Str) then some (.own (rngD s.1 (s.2 - s.1).toNat)) else some (.v (.tuple (rngD s.1 (s.2 - s.1).toNat)))
          | none => match blt x with
            | some (_, _, g) => fun ρ => (evA T N n sc fn args ρ).bind g
            | none => if x = ("isinstance" : Str) then
                (match args with
                | [a, t] => match (nameOf t).bind fun y => (isiS y).bind fun s => if glB sc y = true ∧ y ∈ T.free then some s else none with
                  | some s => fun ρ => (evE T N n sc fn a ρ).bind (isiR s)
                  | none => fun _ => none
                | _ => fun _ => none)
              else fun _ => none)
        else fun _ => none)
    else fun _ => none
/-- tests -/
def evT (T : Tab) (N : List Str) : Nat → Scope → (Str → Bool) → Expr → Env → Option Bool
  | 0, _, _, _ => fun _ => none
  | n + 1, sc, fn, e => match e with
    | .UnaryOp op a p => match op with
      | .Not => fun ρ => (evT T N n sc fn a ρ).map fun b => !b
      | op => fun ρ => (evE T N n sc fn (.UnaryOp op a p) ρ).bind truR
    | .BoolOp op es _ => evTs T N n sc fn op es
    | .IfExp .. => fun _ => none
    | .Compare a ops cs _ => match cmK ops cs with
      | .one op b => fun ρ => (bind2 (evE T N n sc fn a) (evE T N n sc fn b) (cmpR op) ρ).bind truR
      | .two op op' b c => fun ρ => (chainR op op' (evE T N n sc fn a) (evE T N n sc fn b) (evE T N n sc fn c) ρ).bind truR
      | .no => fun _ => none
    | e => fun ρ => (evE T N n sc fn e ρ).bind truR
def evTs (T : Tab) (N : List Str) : Nat → Scope → (Str → Bool) → BoolOp → List Expr → Env → Option Bool
  | 0, _, _, _, _ => fun _ => none
  | n + 1, sc, fn, op, es => match es with
    | [] => fun _ => none
    | [a] => evT T N n sc fn a
    | a :: b :: r => fun ρ => (evT T N n sc fn a ρ).bind fun c => match op with
      | .And => if c = true then evTs T N n sc fn .And (b :: r) ρ else some false
      | .Or => if c = true then some true else evTs T N n sc fn .Or (b :: r) ρ
/-- and, or by value -/
def evV (T : Tab) (N : List Str) : Nat → Scope → (Str → Bool) → BoolOp → List Expr → Env → Option R
  | 0, _, _, _, _ => fun _ => none
  | n + 1, sc, fn, op, es => match es with
    | [] => fun _ => none
    | [a] => evE T N n sc fn a
    | a :: b :: r => fun ρ => (evE T N n sc fn a ρ).bind fun c => (toBool c).bind fun c => match op with
      | .And => if c = true then evV T N n sc fn .And (b :: r) ρ else some (Bl false)
      | .Or => if c = true then some (Bl true) else evV T N n sc fn .Or (b :: r) ρ
/-- arguments -/
def evA (T : Tab) (N : List Str) : Nat → Scope → (Str → Bool) → List Expr → Env → Option (List R)
  | 0, _, _, _ => fun _ => none
  | n + 1, sc, fn, es => match es with
    | [] => fun _ => some []
    | a :: r => if plainE a = true then fun ρ => (evE T N n sc fn a ρ).bind fun x => (evA T N n sc fn r ρ).bind fun rs => some (argR x :: rs) else fun _ => none
/-- a slice's part -/
def evO (T : Tab) (N : List Str) : Nat → Scope → (Str → Bool) → Option Expr → Env → Option (Option Int)
  | 0, _, _, _ => fun _ => none
  | n + 1, sc, fn, o => match o with
    | none => fun _ => some none
    | some e => fun ρ => ((evE T N n sc fn e ρ).bind toInt).map some
/-- tests of a comprehension -/
def evF (T : Tab) (N : List Str) : Nat → Scope → (Str → Bool) → List Expr → Env → Option Bool
  | 0, _, _, _ => fun _ => none
  | n + 1, sc, fn, ifs => match ifs with
    | [] => fun _ => some true
    | [c] => evT T N n sc fn c
    | _ => fun _ => none
/-- what is walked -/
def evI (T : Tab) (N : List Str) : Nat → Scope → (Str → Bool) → Expr → Expr → Env → Option (Bool × List D)
  | 0, _, _, _, _ => fun _ => none
  | n + 1, sc, fn, tg, it => match it with
    | .Call f args kws p => match callN f kws with
      | some x =>
        if bltB sc T x args = true ∧ x = ("range" : Str) then fun ρ => (evA T N n sc fn args ρ).bind rngI
        else if bltB sc T x args = true ∧ x = ("enumerate" : Str) then
          (match oneArg args with
          | some a => if isTup tg = true then fun ρ => (evE T N n sc fn a ρ).bind enumI else fun _ => none
          | none => fun _ => none)
        else if bltB sc T x args = true ∧ x = ("reversed" : Str) then
          (match oneArg args with
          | some a => fun ρ => (evE T N n sc fn a ρ).bind revI
          | none => fun _ => none)
        else fun ρ => (evE T N n sc fn (.Call f args kws p) ρ).bind seqI
      | none => fun ρ => (evE T N n sc fn (.Call f args kws p) ρ).bind seqI
    | it => fun ρ => (evE T N n sc fn it ρ).bind seqI
/-- range(a), range(a, b) as a value: its ends -/
def evR (T : Tab) (N : List Str) : Nat → Scope → (Str → Bool) → Expr → Env → Option (Int × Int)
  | 0, _, _, _ => fun _ => none
  | n + 1, sc, fn, e => match rgArgs sc T e with
    | some (a, none) => fun ρ => ((evE T N n sc fn a ρ).bind toInt).bind fun j => if RgOk 0 j then some (0, j) else none
    | some (a, some b) => fun ρ => ((evE T N n sc fn a ρ).bind toInt).bind fun i => ((evE T N n sc fn b ρ).bind toInt).bind fun j => if RgOk i j then some (i, j) else none
    | none => fun _ => none
end
end Kd

/-! Kd9: the evaluator of expressions is sound. -/
namespace Kd
open PySem PySem.Spec PyProof.Rows L2

/-- a def's promise: what its plain function gives -/
def spD (K : PySem.W.Frag) (n : Nat) (g : List R → Option R) : Sp := fun vs H Q _ => vs.length = n ∧ ∃ B rs r, Same B H ∧ AllV K B H vs rs ∧ g rs = some r ∧ ∀ v B' H', Ext B H B' H' → Res K H B' H' v r → Q v H'
/-- the context of a def's body, or of a comprehension's block, and what is known of the module -/
structure Cxt (T : Tab) (N : List Str) (sc : Scope) (fn : Str → Bool) (k : Nat) (X : Cx) : Prop where
  eN : X.N = N
  nd : N.Nodup
  calm : X.calm = true
  esc : X.env.scope = sc
  efn : ∀ x, locB sc fn x = true → L2.Loc sc x ∧ (X.fn x = true ∨ sc.names.lookup x = some .local)
  xe : X.xe = fun _ _ => False
  room : Room k X.A
  free : ∀ x ∈ T.free, X.mg x = none
  fns : ∀ x m g, T.fns x = some (m, g) → ∃ f fd ps, ps.length = m ∧ FnOk X.prog X.w X.K X.mg X.base CX0 k f fd ps (spD X.K m g) ∧ X.mg x = some (.ref f) ∧ PySem.W.keepIn X.K (.ref f) = true ∧ Binds X.K fd ps []
section
variable {T : Tab} {N : List Str} {sc : Scope} {fn : Str → Bool} {k : Nat} {X : Cx}
theorem Cxt.units (c : Cxt T N sc fn k X) : X.A.units + 70 < cLine := by
  have := c.room.un
  omega
theorem Cxt.gl (c : Cxt T N sc fn k X) {x : Str} (h : glB sc x = true) : Gl X x := by
  show X.env.scope.names.lookup x = _
  rw [c.esc]
  exact of_decide_eq_true h
theorem Cxt.vis (c : Cxt T N sc fn k X) {x : Str} (h : visB sc x = true) : Vis X.env.scope x := by
  rw [c.esc]
  simp only [visB, Bool.or_eq_true, decide_eq_true_eq] at h
  rcases h with (h | h) | h
  · exact .inl h
  · exact .inr (.inl h)
  · exact .inr (.inr h)
theorem okN_all {x : Str} (h : okN x = true) : (x == ("__debug__" : Str)) = false ∧ (x == ("__classdict__" : Str)) = false ∧ x ≠ ("__name__" : Str) := by
  simp only [okN, Bool.and_eq_true, Bool.not_eq_true'] at h
  exact ⟨h.1.1, h.1.2, fun e => by rw [e] at h; exact absurd h.2 (by decide +kernel)⟩
/-- within a comprehension -/
theorem Cxt.blk (c : Cxt T N sc fn k X) {scope : Scope} (s : Shared) (H : Hp) (C : Addr) (cl : List (Str × Addr)) (fp : List Addr) :
    Cxt T N (relS scope sc) (fnB scope) k (X.blk s H scope (compEnvC scope cl C X.env) fp) where
  eN := c.eN
  nd := c.nd
  calm := c.calm
  esc := by
    show relS scope X.env.scope = _
    rw [c.esc]
  efn := fun x h => by
    simp only [locB, Bool.or_eq_true, Bool.and_eq_true, decide_eq_true_eq] at h
    rcases h with h | ⟨h, h2⟩
    · exact ⟨.inl h, .inr h⟩
    · refine ⟨.inr h, .inl ?_⟩
      have h2' : scope.names.lookup x = some .cell := by simpa [fnB] using h2
      show (scope.names.lookup x == some .cell) = true
      rw [h2']
      rfl
  xe := rfl
  room := c.room
  free := c.free
  fns := c.fns
theorem pe_never {e : Expr} : PE X e (tR X.K fun _ => none) := ⟨fun _ _ _ _ _ _ ⟨_, _, _, _, _, _, q, _⟩ => by cases q⟩
theorem pt_never {e : Expr} : PT X e (tT X.K fun _ => none) := ⟨fun _ _ _ _ _ _ ⟨_, _, _, _, _, _, q, _⟩ => by cases q⟩
theorem pi_never {tg e : Expr} : PI X tg e (iD X.K fun _ => none) := ⟨fun _ _ _ _ _ _ ⟨_, _, _, _, _, _, _, q, _⟩ => by cases q⟩
theorem pa_never {es : List Expr} : PA X es (tA X.K fun _ => none) := ⟨fun _ _ _ _ _ _ _ ⟨_, _, _, _, _, _, q, _⟩ => by cases q⟩
theorem pg_never {e : Expr} {ts : List Nat} : PG X e (gD X.K ts fun _ _ => none) := ⟨fun _ _ _ _ _ _ _ _ _ ⟨_, _, _, _, _, _, _, _, q, _⟩ => by cases q⟩
theorem pgs_never {e : List Expr} {ts : List Nat} : PGs X e (gDs X.K ts fun _ _ => none) := ⟨fun _ _ _ _ _ _ _ _ _ ⟨_, _, _, _, _, _, _, _, q, _⟩ => by cases q⟩

/-! names -/
theorem pr_name (c : Cxt T N sc fn k X) {x : Str} {pos : Pos} : PE X (.Name x pos) (tR X.K fun ρ => varE N sc ρ x) := by
  by_cases h : (visB sc x && okN x) = true
  · rw [Bool.and_eq_true] at h
    cases hi : ixOf N x with
    | none => exact PE.fn pe_never fun ρ r q => by simp [varE, h.1, h.2, hi] at q
    | some i =>
      obtain ⟨d1, d2, d3⟩ := okN_all h.2
      refine PE.imp (pe_var (i := i) (by rw [c.eN]; exact ixOf_get hi) (c.vis h.1) d1 d2) fun σ H Q ⟨B, He, H0, ρ, r, s, q, k⟩ => ?_
      have q' : (getE ρ i).map readR = some r := by simpa [varE, h.1, h.2, hi] using q
      obtain ⟨r0, e1, rfl⟩ := Option.map_eq_some_iff.mp q'
      obtain ⟨o, e2, e3⟩ := Option.bind_eq_some_iff.mp e1
      have e3' : o = some r0 := e3
      subst e3'
      obtain ⟨v, a, b⟩ := s.slot i r0 e2
      refine ⟨v, a, k v H0 H (Ext.refl s.ext.sub) ⟨?_, ?_⟩⟩
      · cases r0 <;> exact b.1
      · intro o; cases r0 <;> cases o
  · exact PE.fn pe_never fun ρ r q => by rw [varE, if_neg h] at q; cases q
/-! targets -/
mutual
theorem pr_tg (c : Cxt T N sc fn k X) : ∀ (n : Nat) (tg : Expr), PG X tg (gD X.K (tgIx N n tg) (bindT N sc fn n tg))
  | 0, tg => pg_never
  | n + 1, tg => by
    cases tg with
    | Name x pos =>
      show PG X (.Name x pos) (gD X.K (ixOf N x).toList fun d ρ => if locB sc fn x = true then (ixOf N x).bind fun i => some (ρ.set i (some (.v d))) else none)
      by_cases h : locB sc fn x = true
      · simp only [h, if_true]
        cases hi : ixOf N x with
        | none => exact pg_never
        | some i =>
          obtain ⟨l, f⟩ := c.efn x h
          exact pgd_name (by rw [c.eN]; exact c.nd) (by rw [c.eN]; exact ixOf_get hi) (by rw [c.esc]; exact l) (by rw [c.esc]; exact f)
      · simp only [h, if_false]
        exact pg_never
    | Tuple es kk pos =>
      show PG X (.Tuple es kk pos) (gD X.K (tgIxs N n es) fun d ρ => if es.all plainE = true then (match d with
        | .tuple ds => if ds.length = es.length then bindTs N sc fn n es ds ρ else none
        | _ => none) else none)
      by_cases h : es.all plainE = true
      · simp only [h, if_true]
        exact pgd_tup c.calm (pr_tgs c n es) h
      · simp only [h, if_false]
        exact pg_never
    | _ => exact pg_never
theorem pr_tgs (c : Cxt T N sc fn k X) : ∀ (n : Nat) (tg : List Expr), PGs X tg (gDs X.K (tgIxs N n tg) (bindTs N sc fn n tg))
  | 0, tg => pgs_never
  | n + 1, tg => by
    cases tg with
    | nil => exact pgd_nil
    | cons e es =>
      show PGs X (e :: es) (gDs X.K (tgIx N n e ++ tgIxs N n es) fun ds ρ => if plainE e = true then (match ds with
        | d :: ds => (bindT N sc fn n e d ρ).bind (bindTs N sc fn n es ds)
        | _ => none) else none)
      by_cases h : plainE e = true
      · simp only [h, if_true]
        exact pgd_cons (pr_tg c n e) (pr_tgs c n es) h
      · simp only [h, if_false]
        exact pgs_never
end
mutual
theorem tgIx_ok : ∀ (n : Nat) (tg : Expr), ∀ i ∈ tgIx N n tg, ∃ x, N[i]? = some x
  | 0, _, i, h => by cases h
  | n + 1, tg, i, h => by
    cases tg with
    | Name x _ =>
      have h' : i ∈ (ixOf N x).toList := h
      rw [Option.mem_toList] at h'
      exact ⟨x, ixOf_get h'⟩
    | Tuple es _ _ => exact tgIxs_ok n es i h
    | _ => cases h
theorem tgIxs_ok : ∀ (n : Nat) (tg : List Expr), ∀ i ∈ tgIxs N n tg, ∃ x, N[i]? = some x
  | 0, _, i, h => by cases h
  | n + 1, tg, i, h => by
    cases tg with
    | nil => cases h
    | cons e es =>
      have h' : i ∈ tgIx N n e ++ tgIxs N n es := h
      rcases List.mem_append.mp h' with h' | h'
      · exact tgIx_ok n e i h'
      · exact tgIxs_ok n es i h'
end
theorem ownOf_mem {ts : List Nat} (h : ∀ i ∈ ts, ∃ x, N[i]? = some x) : ∀ i ∈ ts, i ∈ (ownOf N ts).map (·.2) := fun i hi => by
  obtain ⟨x, e⟩ := h i hi
  refine List.mem_map.mpr ⟨(x, i), List.mem_filterMap.mpr ⟨i, hi, by rw [e]; rfl⟩, rfl⟩
/-! displays -/
theorem allVs_rp {K : PySem.W.Frag} {H0 H : Hp} : ∀ {vs : List V} {rs : List R} {ds : List D}, AllV K H0 H vs rs → allVs rs = some ds → RpAll H0 vs ds
  | _, _, _, .nil, e => by cases e; exact .nil
  | _, r :: rs, _, .cons a b, e => by
    cases r with
    | v d =>
      obtain ⟨ds', e1, rfl⟩ := Option.map_eq_some_iff.mp e
      exact .cons a (allVs_rp b e1)
    | _ => cases e
theorem pr_tup {es : List Expr} {kk : Nat} {pos : Pos} {f : Env → Option (List R)} (h : PA X es (tA X.K f)) : PE X (.Tuple es kk pos) (tR X.K fun ρ => (f ρ).bind fun rs => (allVs rs).bind fun ds => if ds.length ≤ sizeLine then some (.v (.tuple ds)) else none) :=
  PE.imp (pe_tup h) fun σ H Q ⟨B, He, H0, ρ, r, s, q, k⟩ => by
    obtain ⟨rs, e1, q⟩ := Option.bind_eq_some_iff.mp q
    obtain ⟨ds, e2, q⟩ := Option.bind_eq_some_iff.mp q
    split at q
    · rename_i hl
      cases q
      refine ⟨B, He, H0, ρ, rs, s, e1, fun vs H0' H' x w => ?_⟩
      have r := allVs_rp w e2
      exact ⟨by rw [r.length]; exact hl, give_tup x.sub r fun v H0'' H'' x' w' => k v H0'' H'' (x.trans x') (w'.weak x.keep)⟩
    · cases q
theorem pr_lst {es : List Expr} {pos : Pos} {f : Env → Option (List R)} (h : PA X es (tA X.K f)) : PE X (.List es pos) (tR X.K fun ρ => (f ρ).bind fun rs => (allVs rs).bind fun ds => if ds.length ≤ sizeLine then some (.own ds) else none) :=
  PE.imp (pe_lst h) fun σ H Q ⟨B, He, H0, ρ, r, s, q, k⟩ => by
    obtain ⟨rs, e1, q⟩ := Option.bind_eq_some_iff.mp q
    obtain ⟨ds, e2, q⟩ := Option.bind_eq_some_iff.mp q
    split at q
    · rename_i hl
      cases q
      refine ⟨B, He, H0, ρ, rs, s, e1, fun vs H0' H' x w => ?_⟩
      have r := allVs_rp w e2
      exact ⟨by rw [r.length]; exact hl, give_lst x.sub r fun v H0'' H'' x' w' => k v H0'' H'' (x.trans x') (w'.weak x.keep)⟩
    · cases q
/-! slices -/
def tO (K : PySem.W.Frag) (f : Env → Option (Option Int)) : TO := fun σ H Q => ∃ B He H0 ρ o, Ks K B He H0 H σ ρ ∧ f ρ = some o ∧ ∀ H0' H', Ext H0 H H0' H' → Q o H'
theorem pr_slice {a : Expr} {lo hi : Option Expr} {p2 pos : Pos} {fa : Env → Option R} {fl fh : Env → Option (Option Int)} (ha : PE X a (tR X.K fa)) (hl : PO X lo (tO X.K fl)) (hh : PO X hi (tO X.K fh)) :
    PE X (.Subscript a (.Slice lo hi none p2) pos) (tR X.K fun ρ => (fa ρ).bind fun r => (fl ρ).bind fun l => (fh ρ).bind fun h => slR r l h) :=
  PE.imp (pe_slice ok_sl ha hl hh) fun σ H Q ⟨B, He, H0, ρ, r, s, q, k⟩ => by
    obtain ⟨r1, e1, q⟩ := Option.bind_eq_some_iff.mp q
    obtain ⟨l, e2, q⟩ := Option.bind_eq_some_iff.mp q
    obtain ⟨h, e3, q⟩ := Option.bind_eq_some_iff.mp q
    refine ⟨B, He, H0, ρ, r1, s, e1, fun v H01 H1 x1 w1 => ?_⟩
    refine ⟨B, He, H01, ρ, l, s.step x1, e2, fun H02 H2 x2 => ?_⟩
    refine ⟨B, He, H02, ρ, h, (s.step x1).step x2, e3, fun H03 H3 x3 => ?_⟩
    have x := x1.trans (x2.trans x3)
    exact ⟨H03, r1, r, x.sub, w1.1.mono (x2.base.trans x3.base) (x2.keep.trans x3.keep), q, fun v H0' H' x' w' => k v H0' H' (x.trans x') (w'.weak x.keep)⟩
theorem po_noneD : PO X none (tO X.K fun _ => some none) := ⟨fun pins s σ H Q I ⟨B, He, H0, ρ, o, st, q, k⟩ => po_none.run pins s σ H Q I (by cases q; exact k H0 H (Ext.refl st.ext.sub))⟩
theorem po_someD {e : Expr} {f : Env → Option R} (h : PE X e (tR X.K f)) : PO X (some e) (tO X.K fun ρ => ((f ρ).bind toInt).map some) := ⟨fun pins s σ H Q I ⟨B, He, H0, ρ, o, st, q, k⟩ => (po_some h).run pins s σ H Q I (by
  obtain ⟨i, q2, rfl⟩ := Option.map_eq_some_iff.mp q
  obtain ⟨r, e1, e2⟩ := Option.bind_eq_some_iff.mp q2
  exact ⟨B, He, H0, ρ, r, st, e1, fun v H0' H' x w => ⟨i, w.1.toInt e2, k H0' H' x⟩⟩)⟩
theorem po_never {o : Option Expr} : PO X o (tO X.K fun _ => none) := ⟨fun _ _ _ _ _ _ ⟨_, _, _, _, _, _, q, _⟩ => by cases q⟩
/-! tests -/
theorem pr_truth {e : Expr} {f : Env → Option R} (h : PE X e (tR X.K f)) (he : ∀ whole, isTrue e X.env whole = (do let v ← whole; standAt e.pos; holding [v] (truthy v))) : PT X e (tT X.K fun ρ => (f ρ).bind truR) :=
  PT.imp (pt_truth h he) fun σ H Q ⟨B, He, H0, ρ, b, s, q, k⟩ => by
    obtain ⟨r, e1, e2⟩ := Option.bind_eq_some_iff.mp q
    exact ⟨B, He, H0, ρ, r, s, e1, fun v H0' H' x w => ⟨b, w.1.tru x.sub e2, k H0' H' x⟩⟩
theorem tru_bl {r : R} {b : Bool} (h : r = Bl b) : truR r = some b := by subst h; rfl
theorem cmpR_bl {op : CmpOp} {x y r : R} (h : cmpR op x y = some r) : ∃ b, r = Bl b := by
  cases op <;> simp only [cmpR, eqR, neR, cmpI, isR, isnR, inR, ninR] at h
  case Is => split at h <;> first | (cases h; exact ⟨_, rfl⟩) | cases h
  case IsNot => split at h <;> first | (cases h; exact ⟨_, rfl⟩) | cases h
  all_goals
    obtain ⟨a, _, h⟩ := Option.bind_eq_some_iff.mp h
    obtain ⟨c, _, h⟩ := Option.bind_eq_some_iff.mp h
    first
      | (cases h; exact ⟨_, rfl⟩)
      | (split at h <;> first | (cases h; exact ⟨_, rfl⟩) | cases h)
theorem pr_cmpT {a b : Expr} {pos : Pos} {fa fb : Env → Option R} {op : CmpOp} (hu : X.A.units + 65 < cLine) (ha : PE X a (tR X.K fa)) (hb : PE X b (tR X.K fb)) (hm : behindInMarks op b = false) : PT X (.Compare a [op] [b] pos) (tT X.K fun ρ => (bind2 fa fb (cmpR op) ρ).bind truR) :=
  PT.imp (pt_cmpR (ok_cmp hu op) ha hb hm) fun σ H Q ⟨B, He, H0, ρ, t, s, q, k⟩ => by
    obtain ⟨r, e1, e2⟩ := Option.bind_eq_some_iff.mp q
    refine tOp_of ⟨B, He, H0, ρ, r, s, e1, fun v H0' H' x w => ?_⟩
    obtain ⟨z, e3, e1'⟩ := Option.bind_eq_some_iff.mp e1
    obtain ⟨z2, e4, e1'⟩ := Option.bind_eq_some_iff.mp e1'
    obtain ⟨b, rfl⟩ := cmpR_bl e1'
    cases e2
    cases w.1
    exact ⟨_, rfl, k H0' H' x⟩
theorem tChain_of {fa fb fc : Env → Option R} {op op' : CmpOp} {K : PySem.W.Frag} {σ : L2.St} {H : Hp} {Q : VK} (h : tR K (chainR op op' fa fb fc) σ H Q) : tChain (rOp K (cmpR op)) (rOp K (cmpR op')) (tR K fa) (tR K fb) (tR K fc) σ H Q := by
  obtain ⟨B, He, H0, ρ, r, s, q, k⟩ := h
  obtain ⟨r1, e1, q⟩ := Option.bind_eq_some_iff.mp q
  obtain ⟨r2, e2, q⟩ := Option.bind_eq_some_iff.mp q
  obtain ⟨r3, e3, q⟩ := Option.bind_eq_some_iff.mp q
  refine ⟨B, He, H0, ρ, r1, s, e1, fun v1 H01 H1 x1 w1 => ?_⟩
  refine ⟨B, He, H01, ρ, r2, s.step x1, e2, fun v2 H02 H2 x2 w2 => ?_⟩
  refine ⟨H02, r1, r2, r3, x2.sub, w1.1.mono x2.base x2.keep, w2.1, e3, fun v3 H03 H3 x3 w3 => ?_⟩
  obtain ⟨t, rfl⟩ := cmpR_bl e3
  cases w3.1
  refine ⟨t, rfl, ?_⟩
  have x := x1.trans (x2.trans x3)
  cases t with
  | true =>
    rw [if_pos rfl]
    obtain ⟨r4, e4, q⟩ := Option.bind_eq_some_iff.mp q
    refine ⟨B, He, H03, ρ, r4, s.step x, e4, fun v4 H04 H4 x4 w4 => ?_⟩
    exact ⟨H04, r2, r4, r, x4.sub, w2.1.mono (x3.base.trans x4.base) (x3.keep.trans x4.keep), w4.1, q, fun v H0' H' x' w' => k v H0' H' (x.trans (x4.trans x')) (w'.weak (x.keep.trans x4.keep))⟩
  | false =>
    rw [if_neg (by simp)]
    cases q
    exact k _ H03 H3 x ⟨.bl _, fun o => by cases o⟩
theorem chain_bl {fa fb fc : Env → Option R} {op op' : CmpOp} {ρ : Env} {r : R} (h : chainR op op' fa fb fc ρ = some r) : ∃ b, r = Bl b := by
  obtain ⟨r1, e1, q⟩ := Option.bind_eq_some_iff.mp h
  obtain ⟨r2, e2, q⟩ := Option.bind_eq_some_iff.mp q
  obtain ⟨r3, e3, q⟩ := Option.bind_eq_some_iff.mp q
  obtain ⟨t, rfl⟩ := cmpR_bl e3
  cases t with
  | true =>
    obtain ⟨r4, e4, q⟩ := Option.bind_eq_some_iff.mp q
    exact cmpR_bl q
  | false => cases q; exact ⟨_, rfl⟩
end
end Kd

/-! Kd10: soundness of the evaluator of expressions. -/
namespace Kd
open PySem PySem.Spec PyProof.Rows L2

theorem View.toBool {K : PySem.W.Frag} {H0 H : Hp} {v : V} {r : R} (w : View K H0 H v r) {b : Bool} (e : Kd.toBool r = some b) : v = .bl b := by
  cases r with
  | v d =>
    cases d with
    | bool z => cases e; cases w; rfl
    | _ => cases e
  | _ => cases e
section
variable {X : Cx}
theorem ok_minA (hc : X.calm = true) : CallR X (.builtin "min") (rCa X.K minA) := by
  intro pins s σ H xs us Q I rr q
  obtain ⟨H0, rs, r, sub, w, q, k⟩ := q
  match rs, q with
  | [x], q => exact ok_min hc pins s σ H xs us Q I rr ⟨H0, [x], r, sub, w, q, k⟩
  | [x, y], q => exact ok_min2 hc pins s σ H xs us Q I rr ⟨H0, [x, y], r, sub, w, q, k⟩
theorem ok_maxA (hc : X.calm = true) : CallR X (.builtin "max") (rCa X.K maxA) := by
  intro pins s σ H xs us Q I rr q
  obtain ⟨H0, rs, r, sub, w, q, k⟩ := q
  match rs, q with
  | [x], q => exact ok_max hc pins s σ H xs us Q I rr ⟨H0, [x], r, sub, w, q, k⟩
  | [x, y], q => exact ok_max2 hc pins s σ H xs us Q I rr ⟨H0, [x, y], r, sub, w, q, k⟩
def bltV (b : Bool) (id : String) : Value := if b = true then .type id else .builtin id
theorem blt_ok (hc : X.calm = true) (hu : X.A.units + 70 < cLine) {x : Str} {b : Bool} {id : String} {g : List R → Option R} (h : blt x = some (b, id, g)) : CallR X (bltV b id) (rCa X.K g) ∧ bootBuiltins x = some (bltV b id) := by
  unfold blt at h
  split at h
  · rename_i e; subst e; cases h; exact ⟨ok_len, by decide +kernel⟩
  split at h
  · rename_i e; subst e; cases h; exact ⟨ok_int, by decide +kernel⟩
  split at h
  · rename_i e; subst e; cases h; exact ⟨ok_tuple, by decide +kernel⟩
  split at h
  · rename_i e; subst e; cases h; exact ⟨ok_list, by decide +kernel⟩
  split at h
  · rename_i e; subst e; cases h; exact ⟨ok_sum hc, by decide +kernel⟩
  split at h
  · rename_i e; subst e; cases h; exact ⟨ok_abs, by decide +kernel⟩
  split at h
  · rename_i e; subst e; cases h; exact ⟨ok_minA hc, by decide +kernel⟩
  split at h
  · rename_i e; subst e; cases h; exact ⟨ok_maxA hc, by decide +kernel⟩
  split at h
  · rename_i e; subst e; cases h; exact ⟨ok_sorted hu, by decide +kernel⟩
  split at h
  · rename_i e; subst e; cases h; exact ⟨ok_all hc, by decide +kernel⟩
  split at h
  · rename_i e; subst e; cases h; exact ⟨ok_any hc, by decide +kernel⟩
  · cases h
theorem isiS_ok {y : Str} {t : String} (h : isiS y = some t) : bootBuiltins y = some (.type t) := by
  unfold isiS at h
  split at h
  · rename_i e; subst e; cases h; decide +kernel
  split at h
  · rename_i e; subst e; cases h; decide +kernel
  split at h
  · rename_i e; subst e; cases h; decide +kernel
  split at h
  · rename_i e; subst e; cases h; decide +kernel
  split at h
  · rename_i e; subst e; cases h; decide +kernel
  · cases h
theorem backTo_plain {pos : Pos} {env : PySem.Env} : ∀ {es : List Expr}, es.all plainE = true → (backTo pos (starEach es env)).any (·.1) = false
  | [], _ => rfl
  | e :: es, h => by
    simp only [List.all_cons, Bool.and_eq_true] at h
    rw [starEach_plain h.1]
    have := backTo_plain (pos := pos) (env := env) h.2
    simp only [backTo, List.map_cons, List.any_cons, Bool.false_or] at this ⊢
    exact this
theorem pr_callB {x : Str} {b : Bool} {id : String} {g : List R → Option R} {a : Expr} {es : List Expr} {p pos : Pos} {f : Env → Option (List R)} (hc : CallR X (bltV b id) (rCa X.K g)) (hv : bootBuiltins x = some (bltV b id)) (hg : Gl X x) (hm : X.mg x = none) (hn : x ≠ ("__name__" : Str)) (hd : (x == ("__debug__" : Str)) = false)
    (ha : PA X (a :: es) (tA X.K f)) (hp : (a :: es).all plainE = true) : PE X (.Call (.Name x p) (a :: es) [] pos) (tR X.K fun ρ => (f ρ).bind g) := by
  have hp' := hp
  simp only [List.all_cons, Bool.and_eq_true] at hp'
  have h1 : starEach (a :: es) X.env = (false, eval a X.env) :: starEach es X.env := starEach_plain hp'.1
  cases b with
  | false => exact PE.imp (pe_callB (id := id) hc hg hm hv ha hn hd h1 (backTo_plain hp'.2)) fun _ _ _ h => tCB_of h
  | true => exact PE.imp (pe_callTy (T := id) hc hg hm hv ha hn hd h1 (backTo_plain hp'.2)) fun _ _ _ h => tCB_of h
theorem AllV.length {K : PySem.W.Frag} {H0 H : Hp} : ∀ {vs : List V} {rs : List R}, AllV K H0 H vs rs → vs.length = rs.length
  | _, _, .nil => rfl
  | _, _, .cons _ t => by simp [AllV.length t]
/-- a call of a def -/
theorem pr_callF {T : Tab} {N : List Str} {sc : Scope} {fn : Str → Bool} {k : Nat} (c : Cxt T N sc fn k X) {x : Str} {m : Nat} {g : List R → Option R} {a : Expr} {es : List Expr} {p pos : Pos} {f : Env → Option (List R)} (hT : T.fns x = some (m, g)) (hg : glB sc x = true) (hn : okN x = true)
    (ha : PA X (a :: es) (tA X.K f)) (hp : (a :: es).all plainE = true) (hl : ∀ ρ rs, f ρ = some rs → rs.length = m) : PE X (.Call (.Name x p) (a :: es) [] pos) (tR X.K fun ρ => (f ρ).bind g) := by
  obtain ⟨fa, fd, ps, e1, F, e2, e3, e4⟩ := c.fns x m g hT
  have hp' := hp
  simp only [List.all_cons, Bool.and_eq_true] at hp'
  have h1 : starEach (a :: es) X.env = (false, eval a X.env) :: starEach es X.env := starEach_plain hp'.1
  obtain ⟨d1, d2, d3⟩ := okN_all hn
  refine PE.imp (pe_call F c.room (c.gl hg) e2 e3 e4 .nil pass0 ha d1 h1 (backTo_plain hp'.2)) fun σ H Q ⟨B, He, H0, ρ, r, s, q, k⟩ => ?_
  obtain ⟨rs, q1, q2⟩ := Option.bind_eq_some_iff.mp q
  refine ⟨B, He, H0, ρ, rs, s, q1, fun vs H0' H' x w => ?_⟩
  dsimp only
  rw [List.append_nil]
  exact ⟨(AllV.length w).trans (hl ρ rs q1), H0', rs, r, x.sub, w, q2, fun v B' H'' x' w' => k v B' H'' (x.trans x') (w'.weak x.keep)⟩
end

/-- soundness at the fuel n -/
structure Snd (T : Tab) (N : List Str) (k n : Nat) : Prop where
  sE : ∀ (X : Cx) sc fn e, Cxt T N sc fn k X → PE X e (tR X.K (evE T N n sc fn e))
  sT : ∀ (X : Cx) sc fn e, Cxt T N sc fn k X → PT X e (tT X.K (evT T N n sc fn e))
  sTs : ∀ (X : Cx) sc fn op es pos, Cxt T N sc fn k X → PW X (.BoolOp op es pos) (tT X.K (evTs T N n sc fn op es))
  sV : ∀ (X : Cx) sc fn op es pos, Cxt T N sc fn k X → PE X (.BoolOp op es pos) (tR X.K (evV T N n sc fn op es))
  sA : ∀ (X : Cx) sc fn es, Cxt T N sc fn k X → PA X es (tA X.K (evA T N n sc fn es))
  sAl : ∀ sc fn es ρ rs, evA T N n sc fn es ρ = some rs → rs.length = es.length
  sO : ∀ (X : Cx) sc fn o, Cxt T N sc fn k X → PO X o (tO X.K (evO T N n sc fn o))
  sF : ∀ (X : Cx) sc fn ifs, Cxt T N sc fn k X → PTs X ifs (tT X.K (evF T N n sc fn ifs))
  sI : ∀ (X : Cx) sc fn tg it, Cxt T N sc fn k X → PI X tg it (iD X.K (evI T N n sc fn tg it))
  sR : ∀ (X : Cx) sc fn e, Cxt T N sc fn k X → PRg X e (fun σ H Q => ∃ B He H0 ρ a b, Ks X.K B He H0 H σ ρ ∧ evR T N n sc fn e ρ = some (a, b) ∧ ∀ H0' H', Ext H0 H H0' H' → RgOk a b → Q a b H')
  sC : ∀ (X : Cx) sc fn x p args pos, Cxt T N sc fn k X → PE X (.Call (.Name x p) args [] pos) (tR X.K (evC T N n sc fn x args))
section
variable {X : Cx}
theorem pts_never {e : List Expr} : PTs X e (tT X.K fun _ => none) := ⟨fun _ _ _ _ _ _ ⟨_, _, _, _, _, _, q, _⟩ => by cases q⟩
theorem pw_never {e : Expr} : PW X e (tT X.K fun _ => none) := ⟨fun _ _ _ _ _ _ _ ⟨_, _, _, _, _, _, q, _⟩ => by cases q⟩
theorem PW.imp {e : Expr} {t t' : TT} (h : PW X e t) (i : ∀ σ H Q, t' σ H Q → t σ H Q) : PW X e t' := ⟨fun wh pins s σ H Q I q => h.run wh pins s σ H Q I (i σ H Q q)⟩
theorem nobehindS {op : CmpOp} {b : Expr} (h : isSetE b = false) : behindInMarks op b = false := by
  cases b <;> first | rfl | cases h
theorem lastS {op op' : CmpOp} {b c : Expr} (h : isSetE c = false) : lastMarks [op, op'] [b, c] = false := by
  show behindInMarks op' c = false
  exact nobehindS h
theorem foldS {it : Expr} {env : PySem.Env} (h : isSetE it = false) : ∀ x, foldedSetIterable it env x = pure x := by
  intro x
  cases it <;> first | rfl | cases h
end

theorem snd0 (T : Tab) (N : List Str) (k : Nat) : Snd T N k 0 where
  sE := fun X sc fn e c => pe_never
  sT := fun X sc fn e c => pt_never
  sTs := fun X sc fn op es pos c => pw_never
  sV := fun X sc fn op es pos c => pe_never
  sA := fun X sc fn es c => pa_never
  sAl := fun sc fn es ρ rs h => by cases h
  sO := fun X sc fn o c => po_never
  sF := fun X sc fn o c => pts_never
  sI := fun X sc fn tg it c => pi_never
  sR := fun X sc fn e c pins s σ H Q I h => by
    obtain ⟨B, He, H0, ρ, a, b, st, q, k⟩ := h
    cases q
  sC := fun X sc fn x p args pos c => pe_never

section
variable {T : Tab} {N : List Str} {k n : Nat}
theorem sndT (S : Snd T N k n) (X : Cx) (sc : Scope) (fn : Str → Bool) (e : Expr) (c : Cxt T N sc fn k X) : PT X e (tT X.K (evT T N (n + 1) sc fn e)) := by
  have hu : X.A.units + 65 < cLine := by have := c.units; omega
  have gen : (∀ whole, isTrue e X.env whole = (do let v ← whole; standAt e.pos; holding [v] (truthy v))) → PT X e (tT X.K fun ρ => (evE T N n sc fn e ρ).bind truR) := fun he => pr_truth (S.sE X sc fn e c) he
  cases e with
  | UnaryOp op a pos =>
    cases op with
    | Not =>
      refine PT.imp (pt_not (S.sT X sc fn a c)) fun σ H Q ⟨B, He, H0, ρ, b, s, q, kk⟩ => ?_
      obtain ⟨b', e1, rfl⟩ := Option.map_eq_some_iff.mp q
      exact ⟨B, He, H0, ρ, b', s, e1, kk⟩
    | _ => exact gen fun _ => rfl
  | BoolOp op es pos => exact (S.sTs X sc fn op es pos c).pt
  | IfExp a b d pos => exact pt_never
  | Compare a ops cs pos =>
    show PT X _ (tT X.K (match cmK ops cs with
      | .one op b => fun ρ => (bind2 (evE T N n sc fn a) (evE T N n sc fn b) (cmpR op) ρ).bind truR
      | .two op op' b c => fun ρ => (chainR op op' (evE T N n sc fn a) (evE T N n sc fn b) (evE T N n sc fn c) ρ).bind truR
      | .no => fun _ => none))
    clear gen
    split
    · rename_i op b h
      obtain ⟨rfl, rfl, hb⟩ := cmK_one h
      exact pr_cmpT hu (S.sE X sc fn a c) (S.sE X sc fn b c) (nobehindS hb)
    · rename_i op op' b d h
      obtain ⟨rfl, rfl, hb⟩ := cmK_two h
      refine PT.imp (pt_chain (ok_cmp hu op) (ok_cmp hu op') (S.sE X sc fn a c) (S.sE X sc fn b c) (S.sE X sc fn d c) (lastS hb)) fun σ H Q ⟨B, He, H0, ρ, t, s, q, kk⟩ => ?_
      obtain ⟨r, e1, e2⟩ := Option.bind_eq_some_iff.mp q
      refine tChain_of ⟨B, He, H0, ρ, r, s, e1, fun v H0' H' x w => ?_⟩
      obtain ⟨z, rfl⟩ := chain_bl e1
      cases e2
      cases w.1
      exact ⟨_, rfl, kk H0' H' x⟩
    · exact pt_never
  | _ => exact gen fun _ => rfl
theorem sndTs (S : Snd T N k n) (X : Cx) (sc : Scope) (fn : Str → Bool) (op : BoolOp) (es : List Expr) (pos : Pos) (c : Cxt T N sc fn k X) : PW X (.BoolOp op es pos) (tT X.K (evTs T N (n + 1) sc fn op es)) := by
  match es with
  | [] => exact pw_never
  | [a] =>
    cases op with
    | And => exact pw_and1 (S.sT X sc fn a c)
    | Or => exact pw_or1 (S.sT X sc fn a c)
  | a :: b :: r =>
    cases op with
    | And =>
      refine PW.imp (pw_and (S.sT X sc fn a c) (S.sTs X sc fn .And (b :: r) pos c)) fun σ H Q ⟨B, He, H0, ρ, t, s, q, kk⟩ => ?_
      obtain ⟨t1, e1, q⟩ := Option.bind_eq_some_iff.mp q
      refine ⟨B, He, H0, ρ, t1, s, e1, fun H0' H' x => ?_⟩
      cases t1 with
      | true => exact iteT ⟨B, He, H0', ρ, t, s.step x, q, fun H0'' H'' x' => kk H0'' H'' (x.trans x')⟩
      | false => cases q; exact iteF (kk H0' H' x)
    | Or =>
      refine PW.imp (pw_or (S.sT X sc fn a c) (S.sTs X sc fn .Or (b :: r) pos c)) fun σ H Q ⟨B, He, H0, ρ, t, s, q, kk⟩ => ?_
      obtain ⟨t1, e1, q⟩ := Option.bind_eq_some_iff.mp q
      refine ⟨B, He, H0, ρ, t1, s, e1, fun H0' H' x => ?_⟩
      cases t1 with
      | false => exact iteF ⟨B, He, H0', ρ, t, s.step x, q, fun H0'' H'' x' => kk H0'' H'' (x.trans x')⟩
      | true => cases q; exact iteT (kk H0' H' x)
theorem sndV (S : Snd T N k n) (X : Cx) (sc : Scope) (fn : Str → Bool) (op : BoolOp) (es : List Expr) (pos : Pos) (c : Cxt T N sc fn k X) : PE X (.BoolOp op es pos) (tR X.K (evV T N (n + 1) sc fn op es)) := by
  match es with
  | [] => exact pe_never
  | [a] => exact pe_one (S.sE X sc fn a c)
  | a :: b :: r =>
    cases op with
    | And =>
      refine PE.imp (pe_and (S.sE X sc fn a c) (S.sV X sc fn .And (b :: r) pos c)) fun σ H Q ⟨B, He, H0, ρ, t, s, q, kk⟩ => ?_
      obtain ⟨t1, e1, q⟩ := Option.bind_eq_some_iff.mp q
      obtain ⟨z, e2, q⟩ := Option.bind_eq_some_iff.mp q
      refine ⟨B, He, H0, ρ, t1, s, e1, fun v H0' H' x w => ?_⟩
      refine ⟨z, View.toBool w.1 e2, ?_⟩
      cases z with
      | true => exact iteT ⟨B, He, H0', ρ, t, s.step x, q, fun v H0'' H'' x' w' => kk v H0'' H'' (x.trans x') (w'.weak x.keep)⟩
      | false => cases q; exact iteF (kk _ H0' H' x ⟨.bl _, fun o => by cases o⟩)
    | Or =>
      refine PE.imp (pe_or (S.sE X sc fn a c) (S.sV X sc fn .Or (b :: r) pos c)) fun σ H Q ⟨B, He, H0, ρ, t, s, q, kk⟩ => ?_
      obtain ⟨t1, e1, q⟩ := Option.bind_eq_some_iff.mp q
      obtain ⟨z, e2, q⟩ := Option.bind_eq_some_iff.mp q
      refine ⟨B, He, H0, ρ, t1, s, e1, fun v H0' H' x w => ?_⟩
      refine ⟨z, View.toBool w.1 e2, ?_⟩
      cases z with
      | false => exact iteF ⟨B, He, H0', ρ, t, s.step x, q, fun v H0'' H'' x' w' => kk v H0'' H'' (x.trans x') (w'.weak x.keep)⟩
      | true => cases q; exact iteT (kk _ H0' H' x ⟨.bl _, fun o => by cases o⟩)
theorem sndA (S : Snd T N k n) (X : Cx) (sc : Scope) (fn : Str → Bool) (es : List Expr) (c : Cxt T N sc fn k X) : PA X es (tA X.K (evA T N (n + 1) sc fn es)) := by
  match es with
  | [] => exact pr_nil
  | a :: r =>
    show PA X (a :: r) (tA X.K (if plainE a = true then fun ρ => (evE T N n sc fn a ρ).bind fun x => (evA T N n sc fn r ρ).bind fun rs => some (argR x :: rs) else fun _ => none))
    split
    · rename_i h
      exact pr_cons (S.sE X sc fn a c) (S.sA X sc fn r c) (starEach_plain h)
    · exact pa_never
theorem sndAl (S : Snd T N k n) (sc : Scope) (fn : Str → Bool) (es : List Expr) (ρ : Env) (rs : List R) (h : evA T N (n + 1) sc fn es ρ = some rs) : rs.length = es.length := by
  match es, h with
  | [], h => cases h; rfl
  | a :: r, h =>
    have h' : (if plainE a = true then fun ρ => (evE T N n sc fn a ρ).bind fun x => (evA T N n sc fn r ρ).bind fun rs => some (argR x :: rs) else fun _ => none) ρ = some rs := h
    split at h'
    · obtain ⟨x, e1, h'⟩ := Option.bind_eq_some_iff.mp h'
      obtain ⟨rs', e2, h'⟩ := Option.bind_eq_some_iff.mp h'
      cases h'
      simp [S.sAl sc fn r ρ rs' e2]
    · cases h'
theorem sndO (S : Snd T N k n) (X : Cx) (sc : Scope) (fn : Str → Bool) (o : Option Expr) (c : Cxt T N sc fn k X) : PO X o (tO X.K (evO T N (n + 1) sc fn o)) := by
  match o with
  | none => exact po_noneD
  | some e => exact po_someD (S.sE X sc fn e c)
theorem sndF (S : Snd T N k n) (X : Cx) (sc : Scope) (fn : Str → Bool) (ifs : List Expr) (c : Cxt T N sc fn k X) : PTs X ifs (tT X.K (evF T N (n + 1) sc fn ifs)) := by
  match ifs with
  | [] => exact PTs.imp pts_nil fun σ H Q ⟨B, He, H0, ρ, b, s, q, kk⟩ => by cases q; exact kk H0 H (Ext.refl s.ext.sub)
  | [e] => exact pts_one (S.sT X sc fn e c)
  | _ :: _ :: _ => exact pts_never
theorem starOne {env : PySem.Env} {a : Expr} (h : plainE a = true) : starEach [a] env = [(false, eval a env)] := by
  rw [starEach_plain h]; rfl
theorem bltB_ok {sc : Scope} {fn : Str → Bool} {X : Cx} (c : Cxt T N sc fn k X) {x : Str} {args : List Expr} (h : bltB sc T x args = true) : Gl X x ∧ X.mg x = none ∧ args.all plainE = true := by
  unfold bltB at h
  rw [Bool.and_eq_true, Bool.and_eq_true, Bool.and_eq_true, decide_eq_true_eq] at h
  exact ⟨c.gl h.1.1.1, c.free _ h.2, h.1.2⟩
theorem isTup_ok {e : Expr} (h : Kd.isTup e = true) : ∃ es k p, e = .Tuple es k p := by
  cases e <;> first | exact ⟨_, _, _, rfl⟩ | cases h
theorem pr_rngI {X : Cx} {sc : Scope} {fn : Str → Bool} (S : Snd T N k n) (c : Cxt T N sc fn k X) {tg : Expr} {args : List Expr} {p pos : Pos} (hg : Gl X "range") (hm : X.mg "range" = none) (h3 : args.all plainE = true) : PI X tg (.Call (.Name ("range" : Str) p) args [] pos) (iD X.K fun ρ => (evA T N n sc fn args ρ).bind rngI) := by
  have len : ∀ ρ r, ((evA T N n sc fn args ρ).bind rngI) = some r → ∃ rs, evA T N n sc fn args ρ = some rs ∧ rngI rs = some r ∧ rs.length = args.length := fun ρ r h => by
    obtain ⟨rs, e1, e2⟩ := Option.bind_eq_some_iff.mp h
    exact ⟨rs, e1, e2, S.sAl sc fn args ρ rs e1⟩
  match args, h3, len with
  | [], _, len =>
    refine PI.fn pi_never fun ρ r h => ?_
    obtain ⟨rs, e1, e2, e3⟩ := len ρ r h
    cases rs with
    | nil => cases e2
    | cons _ _ => cases e3
  | [a], h3, len =>
    refine PI.fn (pr_rng1 hg hm (S.sA X sc fn [a] c) (starOne (by simpa using h3))) fun ρ r h => ?_
    obtain ⟨rs, e1, e2, e3⟩ := len ρ r h
    match rs, e1, e2, e3 with
    | [x], e1, e2, _ => exact Option.bind_eq_some_iff.mpr ⟨_, e1, e2⟩
  | [a, b], h3, len =>
    simp only [List.all_cons, List.all_nil, Bool.and_eq_true, Bool.and_true] at h3
    refine PI.fn (pr_rng2 hg hm (S.sA X sc fn [a, b] c) (by rw [starEach_plain h3.1, starOne h3.2]) (starOne h3.2)) fun ρ r h => ?_
    obtain ⟨rs, e1, e2, e3⟩ := len ρ r h
    match rs, e1, e2, e3 with
    | [x, y], e1, e2, _ => exact Option.bind_eq_some_iff.mpr ⟨_, e1, e2⟩
  | [a, b, d], h3, len =>
    simp only [List.all_cons, List.all_nil, Bool.and_eq_true, Bool.and_true] at h3
    refine PI.fn (pr_rng3 hg hm (S.sA X sc fn [a, b, d] c) (starEach_plain h3.1) (backTo_plain (by simp [h3.2]))) fun ρ r h => ?_
    obtain ⟨rs, e1, e2, e3⟩ := len ρ r h
    match rs, e1, e2, e3 with
    | [x, y, z], e1, e2, _ => exact Option.bind_eq_some_iff.mpr ⟨_, e1, e2⟩
  | _ :: _ :: _ :: _ :: _, _, len =>
    refine PI.fn pi_never fun ρ r h => ?_
    obtain ⟨rs, e1, e2, e3⟩ := len ρ r h
    match rs, e2, e3 with
    | _ :: _ :: _ :: _ :: _, e2, _ => cases e2
theorem sndI (S : Snd T N k n) (X : Cx) (sc : Scope) (fn : Str → Bool) (tg it : Expr) (c : Cxt T N sc fn k X) : PI X tg it (iD X.K (evI T N (n + 1) sc fn tg it)) := by
  have gen : PI X tg it (iD X.K fun ρ => (evE T N n sc fn it ρ).bind seqI) := pr_seq (S.sE X sc fn it c)
  cases it with
  | Call f args kws pos =>
    have e : evI T N (n + 1) sc fn tg (.Call f args kws pos) = (match callN f kws with
      | some x =>
        if bltB sc T x args = true ∧ x = ("range" : Str) then fun ρ => (evA T N n sc fn args ρ).bind rngI
        else if bltB sc T x args = true ∧ x = ("enumerate" : Str) then
          (match oneArg args with
          | some a => if Kd.isTup tg = true then fun ρ => (evE T N n sc fn a ρ).bind enumI else fun _ => none
          | none => fun _ => none)
        else if bltB sc T x args = true ∧ x = ("reversed" : Str) then
          (match oneArg args with
          | some a => fun ρ => (evE T N n sc fn a ρ).bind revI
          | none => fun _ => none)
        else fun ρ => (evE T N n sc fn (.Call f args kws pos) ρ).bind seqI
      | none => fun ρ => (evE T N n sc fn (.Call f args kws pos) ρ).bind seqI) := by
      clear gen
      rfl
    rw [e]
    clear e
    cases hn : callN f kws with
    | none => exact gen
    | some x =>
      dsimp only
      split
      · rename_i h
        obtain ⟨p, rfl, rfl⟩ := callN_ok hn
        obtain ⟨h, rfl⟩ := h
        obtain ⟨hg, hm, h3⟩ := bltB_ok c h
        exact pr_rngI S c hg hm h3
      · split
        · rename_i h
          obtain ⟨p, rfl, rfl⟩ := callN_ok hn
          obtain ⟨h, rfl⟩ := h
          obtain ⟨hg, hm, h3⟩ := bltB_ok c h
          cases ho : oneArg args with
          | none => exact pi_never
          | some a =>
            have := oneArg_ok ho
            subst this
            dsimp only
            split
            · rename_i ht
              obtain ⟨es, kk, tp, rfl⟩ := isTup_ok ht
              exact pr_enum hg hm (S.sE X sc fn a c) (starOne (by simpa using h3))
            · exact pi_never
        · split
          · rename_i h
            obtain ⟨p, rfl, rfl⟩ := callN_ok hn
            obtain ⟨h, rfl⟩ := h
            obtain ⟨hg, hm, h3⟩ := bltB_ok c h
            cases ho : oneArg args with
            | none => exact pi_never
            | some a =>
              have := oneArg_ok ho
              subst this
              exact pr_reversed hg hm (S.sE X sc fn a c) (starEach_plain (by simpa using h3))
          · exact gen
  | _ => exact gen
theorem sndR (S : Snd T N k n) (X : Cx) (sc : Scope) (fn : Str → Bool) (e : Expr) (c : Cxt T N sc fn k X) : PRg X e (fun σ H Q => ∃ B He H0 ρ a b, Ks X.K B He H0 H σ ρ ∧ evR T N (n + 1) sc fn e ρ = some (a, b) ∧ ∀ H0' H', Ext H0 H H0' H' → RgOk a b → Q a b H') := by
  have e0 : evR T N (n + 1) sc fn e = (match rgArgs sc T e with
    | some (a, none) => fun ρ => ((evE T N n sc fn a ρ).bind toInt).bind fun j => if RgOk 0 j then some (0, j) else none
    | some (a, some b) => fun ρ => ((evE T N n sc fn a ρ).bind toInt).bind fun i => ((evE T N n sc fn b ρ).bind toInt).bind fun j => if RgOk i j then some (i, j) else none
    | none => fun _ => none) := rfl
  rw [e0]
  clear e0
  cases hr : rgArgs sc T e with
  | none => exact fun pins s σ H Q I ⟨B, He, H0, ρ, a, b, st, q, k⟩ => by cases q
  | some ao =>
    obtain ⟨a, o⟩ := ao
    obtain ⟨p, pos, rfl, hb⟩ := rgArgs_ok hr
    obtain ⟨hg, hm, h3⟩ := bltB_ok c hb
    cases o with
    | none =>
      intro pins s σ H Q I h
      obtain ⟨B, He, H0, ρ, i, j, st, q, k⟩ := h
      obtain ⟨j', e1, q⟩ := Option.bind_eq_some_iff.mp q
      obtain ⟨r, e1', e2⟩ := Option.bind_eq_some_iff.mp e1
      split at q
      · rename_i hr
        cases q
        exact prg_1 hg hm (S.sE X sc fn a c) (starEach_plain (by simpa using h3)) pins s σ H Q I ⟨B, He, H0, ρ, r, st, e1', fun v H0' H' x w => ⟨j, w.1.toInt e2, k H0' H' x hr⟩⟩
      · cases q
    | some b =>
      simp only [Option.toList_some, List.all_cons, List.all_nil, Bool.and_eq_true, Bool.and_true] at h3
      intro pins s σ H Q I h
      obtain ⟨B, He, H0, ρ, i, j, st, q, k⟩ := h
      obtain ⟨i', e1, q⟩ := Option.bind_eq_some_iff.mp q
      obtain ⟨r, e1', e2⟩ := Option.bind_eq_some_iff.mp e1
      obtain ⟨j', e3, q⟩ := Option.bind_eq_some_iff.mp q
      obtain ⟨r2, e3', e4⟩ := Option.bind_eq_some_iff.mp e3
      split at q
      · rename_i hr
        cases q
        exact prg_2 hg hm (S.sE X sc fn a c) (S.sE X sc fn b c) (starEach_plain h3.1) (starEach_plain h3.2) (backTo_plain (by simp [h3.2])) pins s σ H Q I ⟨B, He, H0, ρ, r, st, e1', fun v H0' H' x w => ⟨B, He, H0', ρ, r2, st.step x, e3', fun v2 H0'' H'' x2 w2 => ⟨i, j, w.1.toInt e2, w2.1.toInt e4, k H0'' H'' (x.trans x2) hr⟩⟩⟩
      · cases q
theorem rgV_all {H : Hp} (a b : Int) : RpAll H (rgV a b) (rngD a (b - a).toNat) := by
  unfold rgV rngD
  generalize (List.range (b - a).toNat) = l
  induction l with
  | nil => exact .nil
  | cons x r ih => exact .cons (.int _) ih
theorem sndC (S : Snd T N k n) (X : Cx) (sc : Scope) (fn : Str → Bool) (x : Str) (p : Pos) (args : List Expr) (pos : Pos) (c : Cxt T N sc fn k X) : PE X (.Call (.Name x p) args [] pos) (tR X.K (evC T N (n + 1) sc fn x args)) := by
  show PE X _ (tR X.K (if (glB sc x && okN x && args.all plainE) = true ∧ args ≠ [] then
      (match T.fns x with
      | some (m, g) => if args.length = m then fun ρ => (evA T N n sc fn args ρ).bind g else fun _ => none
      | none => if x ∈ T.free then
          (match (oneArg args).bind fun a => if (x = ("list" : Str) ∨ x = ("tuple" : Str)) then (rgArgs sc T a).map fun _ => a else none with
          | some a => fun ρ => (evR T N n sc fn a ρ).bind fun s => if x = ("list" : Str) then some (.own (rngD s.1 (s.2 - s.1).toNat)) else some (.v (.tuple (rngD s.1 (s.2 - s.1).toNat)))
          | none => match blt x with
            | some (_, _, g) => fun ρ => (evA T N n sc fn args ρ).bind g
            | none => if x = ("isinstance" : Str) then
                (match args with
                | [a, t] => match (nameOf t).bind fun y => (isiS y).bind fun s => if glB sc y = true ∧ y ∈ T.free then some s else none with
                  | some s => fun ρ => (evE T N n sc fn a ρ).bind (isiR s)
                  | none => fun _ => none
                | _ => fun _ => none)
              else fun _ => none)
        else fun _ => none)
    else fun _ => none))
  split
  · rename_i h
    obtain ⟨h, hne⟩ := h
    rw [Bool.and_eq_true, Bool.and_eq_true] at h
    obtain ⟨⟨h1, h2⟩, h3⟩ := h
    have hg := c.gl h1
    obtain ⟨d1, d2, d3⟩ := okN_all h2
    split
    · rename_i m g hT
      split
      · rename_i hl
        cases args with
        | nil => exact absurd rfl hne
        | cons a es => exact pr_callF c hT h1 h2 (S.sA X sc fn (a :: es) c) h3 fun ρ rs e => (S.sAl sc fn (a :: es) ρ rs e).trans hl
      · exact pe_never
    · split
      · rename_i hf
        have hm := c.free _ hf
        split
        · rename_i a ha
          obtain ⟨a', ea, ha⟩ := Option.bind_eq_some_iff.mp ha
          have := oneArg_ok ea
          subst this
          split at ha
          · rename_i hx
            obtain ⟨ao, hr, rfl⟩ := Option.map_eq_some_iff.mp ha
            have hs : starEach [a'] X.env = (false, eval a' X.env) :: starEach [] X.env := starEach_plain (by simpa using h3)
            by_cases hxl : x = ("list" : Str)
            · subst hxl
              refine PE.imp (pe_listRg c.calm hg hm (S.sR X sc fn a' c) hs) fun σ H Q ⟨B, He, H0, ρ, r, st, q, kk⟩ => ?_
              obtain ⟨⟨i, j⟩, e1, q⟩ := Option.bind_eq_some_iff.mp q
              rw [if_pos rfl] at q
              cases q
              exact ⟨B, He, H0, ρ, i, j, st, e1, fun H0' H' x hok => ⟨hok, give_lst x.sub (rgV_all i j) fun v H0'' H'' x' w' => kk v H0'' H'' (x.trans x') (w'.weak x.keep)⟩⟩
            · have hxt : x = ("tuple" : Str) := hx.resolve_left hxl
              subst hxt
              refine PE.imp (pe_tupRg c.calm hg hm (S.sR X sc fn a' c) hs) fun σ H Q ⟨B, He, H0, ρ, r, st, q, kk⟩ => ?_
              obtain ⟨⟨i, j⟩, e1, q⟩ := Option.bind_eq_some_iff.mp q
              rw [if_neg hxl] at q
              cases q
              exact ⟨B, He, H0, ρ, i, j, st, e1, fun H0' H' x hok => ⟨hok, give_tup x.sub (rgV_all i j) fun v H0'' H'' x' w' => kk v H0'' H'' (x.trans x') (w'.weak x.keep)⟩⟩
          · cases ha
        · split
          · rename_i b id g hb
            obtain ⟨o1, o2⟩ := blt_ok (X := X) c.calm c.units hb
            cases args with
            | nil => exact absurd rfl hne
            | cons a es => exact pr_callB o1 o2 hg hm d3 d1 (S.sA X sc fn (a :: es) c) h3
          · split
            · rename_i hx
              subst hx
              match args, h3 with
              | [], _ => exact pe_never
              | [_], _ => exact pe_never
              | _ :: _ :: _ :: _, _ => exact pe_never
              | [a, t], h3 =>
                dsimp only
                split
                · rename_i s hs
                  obtain ⟨y, ey, hs1⟩ := Option.bind_eq_some_iff.mp hs
                  obtain ⟨s', ht, hs2⟩ := Option.bind_eq_some_iff.mp hs1
                  clear hs hs1
                  obtain ⟨q, rfl⟩ := nameOf_ok ey
                  split at hs2
                  · rename_i hy
                    cases hs2
                    have hyn : y ≠ ("__name__" : Str) ∧ (y == ("__debug__" : Str)) = false := by
                      unfold isiS at ht
                      split at ht
                      · rename_i e; subst e; exact ⟨by decide +kernel, by decide +kernel⟩
                      split at ht
                      · rename_i e; subst e; exact ⟨by decide +kernel, by decide +kernel⟩
                      split at ht
                      · rename_i e; subst e; exact ⟨by decide +kernel, by decide +kernel⟩
                      split at ht
                      · rename_i e; subst e; exact ⟨by decide +kernel, by decide +kernel⟩
                      split at ht
                      · rename_i e; subst e; exact ⟨by decide +kernel, by decide +kernel⟩
                      cases ht
                    simp only [List.all_cons, Bool.and_eq_true] at h3
                    exact pr_isi (S.sE X sc fn a c) hg hm (c.gl hy.1) (c.free _ hy.2) (isiS_ok ht) hyn.1 hyn.2 (starEach_plain h3.1)
                  · cases hs2
                · exact pe_never
            · exact pe_never
      · exact pe_never
  · exact pe_never
theorem plainIx {i : Expr} (h : ∀ a b c d, i ≠ .Slice a b c d) : PlainIx i := fun o j => by
  cases i <;> first | rfl | exact absurd rfl (h _ _ _ _)
theorem sndE (S : Snd T N k n) (X : Cx) (sc : Scope) (fn : Str → Bool) (e : Expr) (c : Cxt T N sc fn k X) : PE X e (tR X.K (evE T N (n + 1) sc fn e)) := by
  have hu : X.A.units + 65 < cLine := by have := c.units; omega
  cases e with
  | Name x pos => exact pr_name c
  | Constant v j pos =>
    cases v with
    | int i => exact PE.imp pe_int fun σ H Q ⟨B, He, H0, ρ, r, st, q, kk⟩ => by cases q; exact kk _ H0 H (Ext.refl st.ext.sub) ⟨.int _, fun o => by cases o⟩
    | bool i => exact PE.imp pe_bl fun σ H Q ⟨B, He, H0, ρ, r, st, q, kk⟩ => by cases q; exact kk _ H0 H (Ext.refl st.ext.sub) ⟨.bl _, fun o => by cases o⟩
    | none => exact PE.imp pe_non fun σ H Q ⟨B, He, H0, ρ, r, st, q, kk⟩ => by cases q; exact kk _ H0 H (Ext.refl st.ext.sub) ⟨.non, fun o => by cases o⟩
    | str i => exact PE.imp pe_str fun σ H Q ⟨B, He, H0, ρ, r, st, q, kk⟩ => by cases q; exact kk _ H0 H (Ext.refl st.ext.sub) ⟨.str _, fun o => by cases o⟩
    | _ => exact pe_never
  | BinOp a op b pos => exact pr_op (ok_bin op) (S.sE X sc fn a c) (S.sE X sc fn b c)
  | UnaryOp op a pos =>
    cases op with
    | Not =>
      refine PE.imp (pe_notT (S.sE X sc fn a c)) fun σ H Q ⟨B, He, H0, ρ, r, st, q, kk⟩ => ?_
      obtain ⟨r1, e1, q⟩ := Option.bind_eq_some_iff.mp q
      obtain ⟨b, e2, rfl⟩ := Option.map_eq_some_iff.mp q
      exact ⟨B, He, H0, ρ, r1, st, e1, fun v H0' H' x w => ⟨b, w.1.tru x.sub e2, kk _ H0' H' x ⟨.bl _, fun o => by cases o⟩⟩⟩
    | USub => exact pr_un ok_neg (S.sE X sc fn a c)
    | _ => exact pe_never
  | BoolOp op es pos => exact S.sV X sc fn op es pos c
  | Compare a ops cs pos =>
    show PE X _ (tR X.K (match cmK ops cs with
      | .one op b => bind2 (evE T N n sc fn a) (evE T N n sc fn b) (cmpR op)
      | .two op op' b c => chainR op op' (evE T N n sc fn a) (evE T N n sc fn b) (evE T N n sc fn c)
      | .no => fun _ => none))
    split
    · rename_i op b h
      obtain ⟨rfl, rfl, hb⟩ := cmK_one h
      exact pr_cmp (ok_cmp hu op) (S.sE X sc fn a c) (S.sE X sc fn b c) (nobehindS hb)
    · rename_i op op' b d h
      obtain ⟨rfl, rfl, hb⟩ := cmK_two h
      exact PE.imp (pe_chain (ok_cmp hu op) (ok_cmp hu op') (S.sE X sc fn a c) (S.sE X sc fn b c) (S.sE X sc fn d c) (lastS hb)) fun σ H Q h => tChain_of h
    · exact pe_never
  | IfExp t a b pos =>
    refine PE.imp (pe_ifExp (S.sT X sc fn t c) (S.sE X sc fn a c) (S.sE X sc fn b c)) fun σ H Q ⟨B, He, H0, ρ, r, st, q, kk⟩ => ?_
    obtain ⟨z, e1, q⟩ := Option.bind_eq_some_iff.mp q
    refine ⟨B, He, H0, ρ, z, st, e1, fun H0' H' x => ?_⟩
    cases z with
    | true => exact iteT ⟨B, He, H0', ρ, r, st.step x, q, fun v H0'' H'' x' w' => kk v H0'' H'' (x.trans x') (w'.weak x.keep)⟩
    | false => exact iteF ⟨B, He, H0', ρ, r, st.step x, q, fun v H0'' H'' x' w' => kk v H0'' H'' (x.trans x') (w'.weak x.keep)⟩
  | Tuple es j pos => exact pr_tup (S.sA X sc fn es c)
  | List es pos => exact pr_lst (S.sA X sc fn es c)
  | Subscript a i pos =>
    show PE X _ (tR X.K (match slK i with
      | .cut lo hi => fun ρ => (evE T N n sc fn a ρ).bind fun r => (evO T N n sc fn lo ρ).bind fun l => (evO T N n sc fn hi ρ).bind fun h => slR r l h
      | .rev => fun ρ => (evE T N n sc fn a ρ).bind revR
      | .no => fun _ => none
      | .ix => bind2 (evE T N n sc fn a) (evE T N n sc fn i) ixR))
    split
    · rename_i lo hi h
      obtain ⟨p, rfl⟩ := slK_cut h
      exact pr_slice (S.sE X sc fn a c) (S.sO X sc fn lo c) (S.sO X sc fn hi c)
    · rename_i h
      obtain ⟨k', p1, p2, p3, rfl⟩ := slK_rev h
      exact pr_rev (S.sE X sc fn a c)
    · exact pe_never
    · rename_i h
      exact PE.imp (pe_ix ok_ix (S.sE X sc fn a c) (S.sE X sc fn i c) (plainIx (slK_ix h))) fun σ H Q h => tOp_of h
  | Call f args kws pos =>
    show PE X _ (tR X.K (match callN f kws with
      | some x => evC T N n sc fn x args
      | none => fun _ => none))
    split
    · rename_i x h
      obtain ⟨p, rfl, rfl⟩ := callN_ok h
      exact S.sC X sc fn x p args pos c
    · exact pe_never
  | ListComp elt gens scope pos =>
    show PE X _ (tR X.K (match gen1 gens with
      | some (tg, it, ifs) =>
        if blkC N sc scope (ownOf N (tgIx N 8 tg)) = true ∧ isSetE it = false then
          fun ρ => (evI T N n sc fn tg it ρ).bind fun s =>
            (compL (turnC (bindT N (relS scope sc) (fnB scope) 8 tg) (evF T N n (relS scope sc) (fnB scope) ifs) (fun ρ => (evE T N n (relS scope sc) (fnB scope) elt ρ).bind toV) (wipeE ρ ((ownOf N (tgIx N 8 tg)).map (·.2)))) s.2).map .own
        else fun _ => none
      | none => fun _ => none))
    split
    · rename_i tg it ifs h
      have := gen1_ok h
      subst this
      split
      · rename_i h
        obtain ⟨h1, h2⟩ := h
        have ok : BlkOk X.N X.env.scope scope (ownOf N (tgIx N 8 tg)) := by rw [c.eN, c.esc]; exact blkOk_by h1
        refine PE.imp (pe_lc (g := gD X.K (tgIx N 8 tg) (bindT N (relS scope sc) (fnB scope) 8 tg)) (tt := tT X.K (evF T N n (relS scope sc) (fnB scope) ifs)) (te := tV X.K fun ρ => (evE T N n (relS scope sc) (fnB scope) elt ρ).bind toV) c.calm (by rw [c.eN]; exact c.nd) (S.sI X sc fn tg it c) ok
          (fun s H C cl fp => pr_tg (c.blk (scope := scope) s H C cl fp) 8 tg) (fun s H C cl fp => S.sF _ _ _ ifs (c.blk (scope := scope) s H C cl fp)) (fun s H C cl fp => PE.toV (S.sE _ _ _ elt (c.blk (scope := scope) s H C cl fp))) (foldS h2)) fun σ H Q h => ?_
        exact tLc_of (ownOf_mem (tgIx_ok 8 tg)) h
      · exact pe_never
    · exact pe_never
  | _ => exact pe_never
end
theorem snd (T : Tab) (N : List Str) (k : Nat) : ∀ n, Snd T N k n
  | 0 => snd0 T N k
  | n + 1 => by
    have S := snd T N k n
    exact ⟨sndE S, sndT S, sndTs S, sndV S, sndA S, sndAl S, sndO S, sndF S, sndI S, sndR S, sndC S⟩
end Kd

/-! Kd11: expressions that change a list of ours (x.pop(..)), and how slots are stored. -/
namespace Kd
open PySem PySem.Spec PyProof.Rows L2

section
variable {K : PySem.W.Frag} {B He H0 H : Hp} {σ : L2.St} {ρ : Env}
/-- no slot holds it as ours -/
def FreshS (He H0 : Hp) (σ : L2.St) (ρ : Env) (v : V) (r : R) : Prop := isOwn r = true → ∃ p, v = .ref p ∧ He p = none ∧ H0 p = none ∧ ∀ (i : Nat) (q : R), ρ[i]? = some (some q) → isOwn q = true → σ[i]? ≠ some (some (.ref p))
theorem Res.freshS {Hp0 Hp1 : Hp} (s : Ks K B He Hp0 Hp1 σ ρ) {v : V} {r : R} (w : Res K Hp1 H0 H v r) : FreshS He H0 σ ρ v r := fun o => by
  obtain ⟨p, rfl, a, b⟩ := w.2 o
  refine ⟨p, rfl, s.ext.keep.free a, b, fun i q e oq h => ?_⟩
  obtain ⟨v', e1, e2⟩ := s.slot i q e
  rw [h] at e1
  cases e1
  obtain ⟨p', u, ep, hp⟩ := e2.1.there oq
  cases ep
  rw [a] at hp
  cases hp
theorem Ks.setF (s : Ks K B He H0 H σ ρ) {v : V} {r : R} (w : View K H0 H v r) (f : FreshS He H0 σ ρ v r) (hs : stoR r = true) (i : Nat) : Ks K B He H0 H (σ.set i (some v)) (ρ.set i (some r)) := by
  have sl : Slot K He H0 H v r := ⟨w, fun o => by obtain ⟨p, a, b, c, _⟩ := f o; exact ⟨p, a, b, c⟩, fun o => by
    cases r with
    | v d => exact w
    | own d => cases o
    | dic d => cases o
    | _ => cases hs⟩
  refine ⟨s.ext, by rw [List.length_set, List.length_set]; exact s.len, fun j q e => ?_, fun j l q q' p e1 e2 o1 o2 h1 h2 => ?_⟩
  · by_cases hj : i = j
    · subst hj
      by_cases hi : i < ρ.length
      · rw [List.getElem?_set_self hi] at e
        cases e
        exact ⟨v, by rw [List.getElem?_set_self (by rw [s.len]; exact hi)], sl⟩
      · rw [List.getElem?_eq_none (by simpa using hi)] at e; cases e
    · rw [List.getElem?_set_ne hj] at e ⊢
      exact s.slot j q e
  · have here : ∀ {q : R} {p : Addr}, (ρ.set i (some r))[i]? = some (some q) → (σ.set i (some v))[i]? = some (some (.ref p)) → q = r ∧ v = .ref p := fun {q p} e h => by
      by_cases hi : i < ρ.length
      · rw [List.getElem?_set_self hi] at e
        rw [List.getElem?_set_self (by rw [s.len]; exact hi)] at h
        cases e; cases h; exact ⟨rfl, rfl⟩
      · rw [List.getElem?_eq_none (by simpa using hi)] at e; cases e
    have key : ∀ {j : Nat} {q : R} {p : Addr}, ρ[j]? = some (some q) → isOwn q = true → σ[j]? = some (some (.ref p)) → v = .ref p → isOwn r = true → False := fun {j q p} e o h ev ow => by
      obtain ⟨p', ep, _, _, n⟩ := f ow
      rw [ev] at ep
      cases ep
      exact n j q e o h
    by_cases hj : i = j
    · by_cases hl : i = l
      · exact hj.symm.trans hl
      · subst hj
        obtain ⟨rfl, ev⟩ := here e1 h1
        rw [List.getElem?_set_ne hl] at e2 h2
        exact (key e2 o2 h2 ev o1).elim
    · rw [List.getElem?_set_ne hj] at e1 h1
      by_cases hl : i = l
      · subst hl
        obtain ⟨rfl, ev⟩ := here e2 h2
        exact (key e1 o1 h1 ev o2).elim
      · rw [List.getElem?_set_ne hl] at e2 h2
        exact s.dist j l q q' p e1 e2 o1 o2 h1 h2
/-- the list of a slot is changed -/
theorem Ks.mut (s : Ks K B He H0 H σ ρ) {i : Nat} {ds : List D} (e : ρ[i]? = some (some (.own ds))) : ∃ p vs, σ[i]? = some (some (.ref p)) ∧ H p = some (.lst vs) ∧ He p = none ∧ H0 p = none ∧ RpAll H0 vs ds ∧
    ∀ (vs' : List V) (ds' : List D), RpAll H0 vs' ds' → Ks K B He H0 (upd H p (.lst vs')) σ (ρ.set i (some (.own ds'))) := by
  obtain ⟨v, a, b⟩ := s.slot i _ e
  obtain ⟨⟨p, vs, rfl, hp, hr⟩, f, _⟩ := b
  obtain ⟨p', ep, h1, h2⟩ := f rfl
  cases ep
  refine ⟨p, vs, a, hp, h1, h2, hr, fun vs' ds' r' => ?_⟩
  have hi : i < ρ.length := (List.getElem?_eq_some_iff.mp e).1
  have kp : Same He (upd H p (.lst vs')) := fun b u z => by rw [upd_ne (ne_of_none z h1)]; exact s.ext.keep b u z
  have sb : Same H0 (upd H p (.lst vs')) := fun b u z => by rw [upd_ne (ne_of_none z h2)]; exact s.ext.sub b u z
  refine ⟨⟨kp, s.ext.base, sb, s.ext.newb⟩, by rw [List.length_set]; exact s.len, fun j q e' => ?_, fun j l q q' p' e1 e2 o1 o2 h1' h2' => ?_⟩
  · by_cases hj : i = j
    · subst hj
      rw [List.getElem?_set_self hi] at e'
      cases e'
      exact ⟨_, a, ⟨p, vs', rfl, upd_same, r'⟩, (fun _ => ⟨p, rfl, h1, h2⟩), fun o => by cases o⟩
    · rw [List.getElem?_set_ne hj] at e'
      obtain ⟨v', a', b'⟩ := s.slot j q e'
      refine ⟨v', a', ?_, b'.2.1, b'.2.2⟩
      cases ho : isOwn q with
      | false => exact (b'.2.2 ho).mono (Same.refl _) kp
      | true =>
        obtain ⟨q1, u, rfl, hq⟩ := b'.1.there ho
        have ne : q1 ≠ p := fun z => hj (s.dist i j _ q p e e' rfl ho a (by rw [a', z]))
        cases q with
        | own zs => obtain ⟨p1, ws, ep, hw, rw'⟩ := b'.1; cases ep; exact ⟨q1, ws, rfl, by rw [upd_ne ne]; exact hw, rw'⟩
        | dic zs => obtain ⟨p1, ws, ep, hw, rw'⟩ := b'.1; cases ep; exact ⟨q1, ws, rfl, by rw [upd_ne ne]; exact hw, rw'⟩
        | _ => cases ho
  · have back : ∀ {j : Nat} {q : R}, (ρ.set i (some (.own ds')))[j]? = some (some q) → isOwn q = true → ∃ q', ρ[j]? = some (some q') ∧ isOwn q' = true := fun {j q} e' o => by
      by_cases hj : i = j
      · subst hj; exact ⟨_, e, rfl⟩
      · rw [List.getElem?_set_ne hj] at e'; exact ⟨q, e', o⟩
    obtain ⟨_, a1, b1⟩ := back e1 o1
    obtain ⟨_, a2, b2⟩ := back e2 o2
    exact s.dist j l _ _ p' a1 a2 b1 b2 h1' h2'
/-- the list of a slot counts as a datum from now on -/
def frz1 (ρ : Env) (i : Nat) : Env := match ρ[i]? with
  | some (some (.own ds)) => ρ.set i (some (.v (.list ds)))
  | _ => ρ
theorem Ks.frz1 (s : Ks K B He H0 H σ ρ) (i : Nat) : ∃ H0', Same H0 H0' ∧ Ks K B He H0' H σ (Kd.frz1 ρ i) := by
  unfold Kd.frz1
  split
  · rename_i ds e
    obtain ⟨v, a, b⟩ := s.slot i _ e
    obtain ⟨⟨p, vs, rfl, hp, hr⟩, f, _⟩ := b
    obtain ⟨p', ep, h1, h2⟩ := f rfl
    cases ep
    have hi : i < ρ.length := (List.getElem?_eq_some_iff.mp e).1
    have s0 : Same H0 (upd H0 p (.lst vs)) := fun c u z => by rw [upd_ne (ne_of_none z h2)]; exact z
    refine ⟨upd H0 p (.lst vs), s0, s.ext.still h1 hp h2, by rw [List.length_set]; exact s.len, fun j q e' => ?_, fun j l q q' p' e1 e2 o1 o2 h1' h2' => ?_⟩
    · by_cases hj : i = j
      · subst hj
        rw [List.getElem?_set_self hi] at e'
        cases e'
        have r : Rp (upd H0 p (.lst vs)) (.ref p) (.list ds) := .lst upd_same (RpAll.mono s0 _ _ hr)
        exact ⟨_, a, r, (fun o => by cases o), fun _ => r⟩
      · rw [List.getElem?_set_ne hj] at e'
        obtain ⟨v', a', b'⟩ := s.slot j q e'
        refine ⟨v', a', b'.1.mono s0 (Same.refl _), fun o => ?_, fun o => (b'.2.2 o).mono s0 (Same.refl _)⟩
        obtain ⟨p2, rfl, c1, c2⟩ := b'.2.1 o
        have ne : p2 ≠ p := fun z => hj (s.dist i j _ q p e e' rfl o a (by rw [a', z]))
        exact ⟨p2, rfl, c1, by rw [upd_ne ne]; exact c2⟩
    · have back : ∀ {j : Nat} {q : R}, (ρ.set i (some (.v (.list ds))))[j]? = some (some q) → isOwn q = true → ρ[j]? = some (some q) := fun {j q} e' o => by
        by_cases hj : i = j
        · subst hj; rw [List.getElem?_set_self hi] at e'; cases e'; cases o
        · rw [List.getElem?_set_ne hj] at e'; exact e'
      exact s.dist j l q q' p' (back e1 o1) (back e2 o2) o1 o2 h1' h2'
  · exact ⟨H0, Same.refl _, s⟩
def frz (N : List Str) (ρ : Env) : List Str → Env
  | [] => ρ
  | x :: xs => match ixOf N x with
    | some i => frz N (frz1 ρ i) xs
    | none => frz N ρ xs
theorem Ks.frz (N : List Str) : ∀ {H0 : Hp} {ρ : Env} (xs : List Str), Ks K B He H0 H σ ρ → ∃ H0', Same H0 H0' ∧ Ks K B He H0' H σ (Kd.frz N ρ xs)
  | H0, ρ, [], s => ⟨H0, Same.refl _, s⟩
  | H0, ρ, x :: xs, s => by
    unfold Kd.frz
    split
    · rename_i i _
      obtain ⟨H1, s1, k1⟩ := s.frz1 i
      obtain ⟨H2, s2, k2⟩ := Ks.frz N xs k1
      exact ⟨H2, s1.trans s2, k2⟩
    · exact Ks.frz N xs s
end

/-! ### the reading of an expression that may change lists of ours -/
def tM (K : PySem.W.Frag) (f : Env → Option (R × Env)) : TE := fun σ H Q => ∃ B He H0 ρ r ρ', Ks K B He H0 H σ ρ ∧ f ρ = some (r, ρ') ∧
  ∀ v H0' H', Ks K B He H0' H' σ ρ' → Same H0 H0' → View K H0' H' v r → FreshS He H0' σ ρ' v r → Q v H'
section
variable {X : Cx} {e : Expr}
theorem tM_of {K : PySem.W.Frag} {f : Env → Option R} {σ : L2.St} {H : Hp} {Q : VK} (h : tM K (fun ρ => (f ρ).map fun r => (r, ρ)) σ H Q) : tR K f σ H Q := by
  obtain ⟨B, He, H0, ρ, r, ρ', s, q, k⟩ := h
  obtain ⟨r', e1, e2⟩ := Option.map_eq_some_iff.mp q
  cases e2
  exact ⟨B, He, H0, ρ, r, s, e1, fun v H0' H' x w => k v H0' H' (s.step x) x.base w.1 (w.freshS s)⟩
theorem PE.mut {f : Env → Option R} (h : PE X e (tR X.K f)) : PE X e (tM X.K fun ρ => (f ρ).map fun r => (r, ρ)) := PE.imp h fun _ _ _ h => tM_of h
theorem pm_never : PE X e (tM X.K fun _ => none) := ⟨fun _ _ _ _ _ _ ⟨_, _, _, _, _, _, _, q, _⟩ => by cases q⟩
theorem PE.mfn {f g : Env → Option (R × Env)} (h : PE X e (tM X.K f)) (i : ∀ ρ r, g ρ = some r → f ρ = some r) : PE X e (tM X.K g) := PE.imp h fun σ H Q ⟨B, He, H0, ρ, r, ρ', s, q, k⟩ => ⟨B, He, H0, ρ, r, ρ', s, i _ _ q, k⟩
/-- an own result counts as a datum -/
theorem FreshS.freeze {K : PySem.W.Frag} {B He H0 H : Hp} {σ : L2.St} {ρ : Env} {v : V} {ds : List D} (s : Ks K B He H0 H σ ρ) (w : View K H0 H v (.own ds)) (f : FreshS He H0 σ ρ v (.own ds)) : ∃ H0', Same H0 H0' ∧ Ks K B He H0' H σ ρ ∧ Rp H0' v (.list ds) := by
  obtain ⟨p, vs, rfl, hp, hr⟩ := w
  obtain ⟨p', ep, h1, h2, n⟩ := f rfl
  cases ep
  have s0 : Same H0 (upd H0 p (.lst vs)) := fun c u z => by rw [upd_ne (ne_of_none z h2)]; exact z
  refine ⟨upd H0 p (.lst vs), s0, ⟨s.ext.still h1 hp h2, s.len, fun j q e' => ?_, s.dist⟩, .lst upd_same (RpAll.mono s0 _ _ hr)⟩
  obtain ⟨v', a', b'⟩ := s.slot j q e'
  refine ⟨v', a', b'.1.mono s0 (Same.refl _), fun o => ?_, fun o => (b'.2.2 o).mono s0 (Same.refl _)⟩
  obtain ⟨p2, rfl, c1, c2⟩ := b'.2.1 o
  have ne : p2 ≠ p := fun z => n j q e' o (by rw [a', z])
  exact ⟨p2, rfl, c1, by rw [upd_ne ne]; exact c2⟩
theorem FreshS.toV {K : PySem.W.Frag} {B He H0 H : Hp} {σ : L2.St} {ρ : Env} {v : V} {r : R} {d : D} (s : Ks K B He H0 H σ ρ) (w : View K H0 H v r) (f : FreshS He H0 σ ρ v r) (e : toV r = some d) : ∃ H0', Same H0 H0' ∧ Ks K B He H0' H σ ρ ∧ Rp H0' v d := by
  cases r with
  | v d' => cases e; exact ⟨H0, Same.refl _, s, w⟩
  | own ds => cases e; exact FreshS.freeze s w f
  | _ => cases e
theorem FreshS.arg {K : PySem.W.Frag} {B He H0 H : Hp} {σ : L2.St} {ρ : Env} {v : V} {r : R} (s : Ks K B He H0 H σ ρ) (w : View K H0 H v r) (f : FreshS He H0 σ ρ v r) : ∃ H0', Same H0 H0' ∧ Ks K B He H0' H σ ρ ∧ View K H0' H v (argR r) := by
  cases r with
  | own ds => exact FreshS.freeze s w f
  | dic ds => exact ⟨H0, Same.refl _, s, w⟩
  | v d => exact ⟨H0, Same.refl _, s, w⟩
  | bor d => exact ⟨H0, Same.refl _, s, w⟩
  | scr d => exact ⟨H0, Same.refl _, s, w⟩
  | bdi d => exact ⟨H0, Same.refl _, s, w⟩
/-- a built-in of one argument over such an expression -/
theorem pm_call {x : Str} {b : Bool} {id : String} {g : List R → Option R} {a : Expr} {p pos : Pos} {f : Env → Option (R × Env)} (hc : CallR X (bltV b id) (rCa X.K g)) (hv : bootBuiltins x = some (bltV b id)) (hg : Gl X x) (hm : X.mg x = none) (hn : x ≠ ("__name__" : Str)) (hd : (x == ("__debug__" : Str)) = false)
    (ha : PE X a (tM X.K f)) (hp : plainE a = true) : PE X (.Call (.Name x p) [a] [] pos) (tM X.K fun ρ => (f ρ).bind fun s => (g [argR s.1]).map fun r => (r, s.2)) := by
  have h1 : starEach [a] X.env = (false, eval a X.env) :: starEach [] X.env := starEach_plain hp
  have key : ∀ σ H Q, tM X.K (fun ρ => (f ρ).bind fun s => (g [argR s.1]).map fun r => (r, s.2)) σ H Q → tCB (rCa X.K g) (tCons (tM X.K f) tNil) σ H Q := by
    intro σ H Q ⟨B, He, H0, ρ, r, ρ', s, q, k⟩
    obtain ⟨⟨r1, ρ1⟩, e1, q⟩ := Option.bind_eq_some_iff.mp q
    obtain ⟨r2, e2, e3⟩ := Option.map_eq_some_iff.mp q
    cases e3
    refine ⟨B, He, H0, ρ, r1, ρ1, s, e1, fun v H0' H' s' b' w f' => ?_⟩
    obtain ⟨H0'', b'', s'', w''⟩ := FreshS.arg s' w f'
    exact ⟨H0'', [argR r1], r, s''.ext.sub, .cons w'' .nil, e2, fun v2 H03 H3 x3 w3 => k v2 H03 H3 (s''.step x3) (b'.trans (b''.trans x3.base)) w3.1 (w3.freshS s'')⟩
  cases b with
  | false => exact PE.imp (pe_callB (id := id) hc hg hm hv (pa_cons ha pa_nil h1) hn hd h1 (by rfl)) key
  | true => exact PE.imp (pe_callTy (T := id) hc hg hm hv (pa_cons ha pa_nil h1) hn hd h1 (by rfl)) key
/-- a slice of such an expression -/
theorem pm_slice {a : Expr} {lo hi : Option Expr} {p2 pos : Pos} {fa : Env → Option (R × Env)} {fl fh : Env → Option (Option Int)} (ha : PE X a (tM X.K fa)) (hl : PO X lo (tO X.K fl)) (hh : PO X hi (tO X.K fh)) :
    PE X (.Subscript a (.Slice lo hi none p2) pos) (tM X.K fun ρ => (fa ρ).bind fun s => (fl s.2).bind fun l => (fh s.2).bind fun h => (slR s.1 l h).map fun r => (r, s.2)) :=
  PE.imp (pe_slice ok_sl ha hl hh) fun σ H Q ⟨B, He, H0, ρ, r, ρ', s, q, k⟩ => by
    obtain ⟨⟨r1, ρ1⟩, e1, q⟩ := Option.bind_eq_some_iff.mp q
    obtain ⟨l, e2, q⟩ := Option.bind_eq_some_iff.mp q
    obtain ⟨h, e3, q⟩ := Option.bind_eq_some_iff.mp q
    obtain ⟨r2, e4, e5⟩ := Option.map_eq_some_iff.mp q
    cases e5
    refine ⟨B, He, H0, ρ, r1, ρ1, s, e1, fun v H01 H1 s1 b1 w1 f1 => ?_⟩
    refine ⟨B, He, H01, ρ1, l, s1, e2, fun H02 H2 x2 => ?_⟩
    refine ⟨B, He, H02, ρ1, h, s1.step x2, e3, fun H03 H3 x3 => ?_⟩
    have s3 := (s1.step x2).step x3
    exact ⟨H03, r1, r, x3.sub, w1.mono (x2.base.trans x3.base) (x2.keep.trans x3.keep), e4, fun v H0' H' x' w' => k v H0' H' (s3.step x') (b1.trans (x2.base.trans (x3.base.trans x'.base))) w'.1 (w'.freshS s3)⟩
end

/-! ### x.pop(), x.pop(i) -/
def popD (ds : List D) : Option (D × List D) := (ds[ds.length - 1]?).map fun d => (d, ds.dropLast)
def popAtD (ds : List D) (i : Int) : Option (D × List D) := if -(2 ^ 63) ≤ i ∧ i < 2 ^ 63 then (ixN ds.length i).bind fun k => (ds[k]?).map fun d => (d, ds.eraseIdx k) else none
theorem RpAll.dropLast {H : Hp} {vs : List V} {ds : List D} (h : RpAll H vs ds) : RpAll H vs.dropLast ds.dropLast := by
  rw [List.dropLast_eq_take, List.dropLast_eq_take, h.length]
  exact h.take _
section
variable {X : Cx} {N : List Str}
def ownAt (ρ : Env) (i : Nat) : Option (List D) := match ρ[i]? with
  | some (some (.own ds)) => some ds
  | _ => none
theorem ownAt_ok {ρ : Env} {i : Nat} {ds : List D} (h : ownAt ρ i = some ds) : ρ[i]? = some (some (.own ds)) := by
  unfold ownAt at h
  split at h
  · cases h; assumption
  · cases h
theorem pm_pop {i : Nat} {x : Str} {px ap cp : Pos} (hi : X.N[i]? = some x) (hv : Vis X.env.scope x) (hd : (x == ("__debug__" : Str)) = false) (hcd : (x == ("__classdict__" : Str)) = false) (hl : (ap.endLine == cp.line) = true) :
    PE X (.Call (.Attribute (.Name x px) "pop" ap) [] [] cp) (tM X.K fun ρ => (ownAt ρ i).bind fun ds => (popD ds).map fun s => (.v s.1, ρ.set i (some (.own s.2)))) :=
  PE.imp (pe_bm0 PySem.F.plainAttrs_list PySem.F.slot_list_pop PySem.F.type_list_pop mt_pop (pe_var hi hv hd hcd) (by rfl) hl) fun σ H Q ⟨B, He, H0, ρ, r, ρ', s, q, k⟩ => by
    obtain ⟨ds, e1, q⟩ := Option.bind_eq_some_iff.mp q
    obtain ⟨⟨d, ds'⟩, e2, e3⟩ := Option.map_eq_some_iff.mp q
    cases e3
    obtain ⟨d', e4, e5⟩ := Option.map_eq_some_iff.mp e2
    cases e5
    obtain ⟨p, vs, a, hp, h1, h2, hr, up⟩ := s.mut (ownAt_ok e1)
    obtain ⟨y, ey, ry⟩ := hr.get e4
    have ln := hr.length
    exact ⟨_, a, .inl ⟨rfl, vs, SqL.of hp⟩, p, vs, y, rfl, rfl, hp, by rw [ln]; exact ey, k y H0 _ (up _ _ hr.dropLast) (Same.refl _) ry fun o => by cases o⟩
theorem seqIndex_ixN {n : Nat} {i : Int} {j : Nat} (h : ixN n i = some j) : seqIndex? i n = some j := (ixN_seq h).1
theorem pm_popAt {i : Nat} {x : Str} {px ap cp : Pos} {a : Expr} {f : Env → Option R} (hi : X.N[i]? = some x) (hv : Vis X.env.scope x) (hd : (x == ("__debug__" : Str)) = false) (hcd : (x == ("__classdict__" : Str)) = false) (hl : (ap.endLine == cp.line) = true) (ha : PE X a (tR X.K f)) (hpl : plainE a = true) :
    PE X (.Call (.Attribute (.Name x px) "pop" ap) [a] [] cp) (tM X.K fun ρ => (ownAt ρ i).bind fun ds => ((f ρ).bind toInt).bind fun j => (popAtD ds j).map fun s => (.v s.1, ρ.set i (some (.own s.2)))) := by
  have h1 : starEach [a] X.env = (false, eval a X.env) :: starEach [] X.env := starEach_plain hpl
  refine PE.imp (pe_bm PySem.F.plainAttrs_list PySem.F.slot_list_pop PySem.F.type_list_pop mt_popAt (pe_var hi hv hd hcd) (pa_cons ha pa_nil h1) (by rfl) (by rw [h1]; rfl) hl h1 (by rfl)) fun σ H Q ⟨B, He, H0, ρ, r, ρ', s, q, k⟩ => ?_
  obtain ⟨ds, e1, q⟩ := Option.bind_eq_some_iff.mp q
  obtain ⟨j, e2, q⟩ := Option.bind_eq_some_iff.mp q
  obtain ⟨r1, e2, e2'⟩ := Option.bind_eq_some_iff.mp e2
  obtain ⟨⟨d, ds'⟩, e3, e4⟩ := Option.map_eq_some_iff.mp q
  cases e4
  unfold popAtD at e3
  split at e3
  · rename_i hj
    obtain ⟨n, e5, e3⟩ := Option.bind_eq_some_iff.mp e3
    obtain ⟨d', e6, e7⟩ := Option.map_eq_some_iff.mp e3
    cases e7
    obtain ⟨p, vs, a', hp, _, _, hr, _⟩ := s.mut (ownAt_ok e1)
    refine ⟨_, a', .inl ⟨rfl, vs, SqL.of hp⟩, B, He, H0, ρ, r1, s, ‹f ρ = some r1›, fun v H0' H' x' w => ?_⟩
    obtain ⟨p2, vs2, a2, hp2, _, _, hr2, up⟩ := (s.step x').mut (ownAt_ok e1)
    rw [a'] at a2
    cases a2
    obtain ⟨y, ey, ry⟩ := hr2.get e6
    have ln := hr2.length
    exact ⟨p, vs2, j, n, y, rfl, by rw [w.1.toInt e2'], hp2, hj.1, hj.2, by rw [ln]; exact seqIndex_ixN e5, ey, k y H0' _ (up _ _ (hr2.eraseIdx n)) x'.base ry fun o => by cases o⟩
  · cases e3
end

/-! ### [x.pop(e) for tg in it] -/
def compP (i : Nat) (vs : List Nat) (b : D → Env → Option Env) (fe : Env → Option R) (ρ : Env) : List D → List D → Option (List D × List D)
  | [], ds => some ([], ds)
  | d :: r, ds => (b d (wipeE (ρ.set i (some (.own ds))) vs)).bind fun ρ' => ((fe ρ').bind toInt).bind fun j => (popAtD ds j).bind fun s => (compP i vs b fe ρ r s.2).map fun t => (s.1 :: t.1, t.2)
theorem setSelf {ρ : Env} {i : Nat} {q : Option R} (e : ρ[i]? = some q) : ρ.set i q = ρ := by
  apply List.ext_getElem?
  intro j
  by_cases hj : i = j
  · subst hj
    rw [List.getElem?_set_self (List.getElem?_eq_some_iff.mp e).1, e]
  · rw [List.getElem?_set_ne hj]
theorem tLc_pop {K : PySem.W.Frag} {vs : List Nat} {ts : List Nat} {b : D → Env → Option Env} {fe : Env → Option R} {fi : Env → Option (Bool × List D)} {i : Nat} (hts : ∀ j ∈ ts, j ∈ vs) (hi : i ∉ vs) {σ : L2.St} {H : Hp} {Q : VK}
    (h : tM K (fun ρ => (fi ρ).bind fun s => if s.1 = true then (ownAt ρ i).bind fun ds => (compP i vs b fe ρ s.2 ds).map fun t => (.own t.1, ρ.set i (some (.own t.2))) else none) σ H Q) :
    tLc (iD K fi) (gD K ts b) tYes (tBM K "list" rPopAt (tVar i) (tCons (tR K fe) tNil)) vs σ H Q := by
  obtain ⟨B, He, H0, ρ, r, ρ', st, q, k⟩ := h
  obtain ⟨⟨bb, ds⟩, e1, q⟩ := Option.bind_eq_some_iff.mp q
  dsimp only at q
  split at q
  case isFalse => cases q
  rename_i hbb
  subst hbb
  obtain ⟨xs0, e0, q⟩ := Option.bind_eq_some_iff.mp q
  obtain ⟨⟨out, fin⟩, e2, e3⟩ := Option.map_eq_some_iff.mp q
  cases e3
  have e0' := ownAt_ok e0
  have hil : i < ρ.length := (List.getElem?_eq_some_iff.mp e0').1
  refine ⟨B, He, H0, ρ, true, ds, st, e1, fun J H0' H' x it hz D hD => ?_⟩
  rw [if_pos rfl] at it
  have hHeD : He D = none := (st.ext.keep.trans x.keep).free hD
  have notD : ∀ (j : Nat) (q : R) (p : Addr), ρ[j]? = some (some q) → isOwn q = true → σ[j]? = some (some (.ref p)) → p ≠ D := fun j q p e o hs z => by
    obtain ⟨v, a, b⟩ := st.slot j q e
    obtain ⟨p', u, ep, hp⟩ := b.1.there o
    rw [hs] at a
    cases a
    cases ep
    have := x.keep _ _ hp
    rw [z, hD] at this
    cases this
  refine ⟨fun n m Hi => m = ds.length - n ∧ n ≤ ds.length ∧ ∃ H0i acc done rest cur, Ks K B He H0i Hi σ (ρ.set i (some (.own cur))) ∧ Same H0' H0i ∧ Hi D = some (.lst acc) ∧ H0i D = none ∧ RpAll H0i acc done ∧ done.length ≤ n ∧ compP i vs b fe ρ (ds.drop n) cur = some (rest, fin) ∧ done ++ rest = out, ?_, ?_⟩
  · refine ⟨ds.length, by simp, Nat.zero_le _, H0', [], [], out, xs0, ?_, Same.refl _, upd_same, x.sub.free hD, .nil, Nat.le_refl _, by simpa using e2, by simp⟩
    rw [setSelf e0']
    exact st.step (x.new hD)
  · rintro n m Hi ⟨rfl, hn, H0i, acc, done, rest, cur, si, s0i, hDi, h0D, ra, hdl, er, eo⟩
    by_cases hlt : n < ds.length
    · refine .inr ⟨it.go n H0i Hi s0i si.ext.sub (s0i.trans si.ext.sub) hlt, ?_⟩
      refine ⟨fun Hn => ∃ H0n acc done rest cur, Ks K B He H0n Hn σ (ρ.set i (some (.own cur))) ∧ Same H0' H0n ∧ Hn D = some (.lst acc) ∧ H0n D = none ∧ RpAll H0n acc done ∧ done.length ≤ n + 1 ∧ compP i vs b fe ρ (ds.drop (n + 1)) cur = some (rest, fin) ∧ done ++ rest = out, fun Hn hn => ⟨ds.length - (n + 1), by omega, rfl, hlt, hn⟩, fun xv H3 hy => ?_⟩
      obtain ⟨H03, d, ed, x3, r3⟩ := it.yld n H0i Hi xv H3 s0i si.ext.sub (s0i.trans si.ext.sub) hlt hy
      have edr : ds.drop n = d :: ds.drop (n + 1) := by
        rw [List.drop_eq_getElem_cons hlt]
        congr 1
        have := List.getElem?_eq_getElem hlt
        rw [ed] at this
        exact (Option.some.inj this).symm
      rw [edr] at er
      obtain ⟨ρ1, eb, er1⟩ := Option.bind_eq_some_iff.mp er
      obtain ⟨j, ej, er2⟩ := Option.bind_eq_some_iff.mp er1
      obtain ⟨⟨y, cur'⟩, ep, er3⟩ := Option.bind_eq_some_iff.mp er2
      obtain ⟨⟨rest', fin'⟩, er4, er5⟩ := Option.map_eq_some_iff.mp er3
      cases er5
      obtain ⟨rj, ej1, ej2⟩ := Option.bind_eq_some_iff.mp ej
      have s3 := si.step x3
      have hD3 := x3.keep _ _ hDi
      have nD : ∀ {H0x Hx H0y Hy : Hp}, Ext H0x Hx H0y Hy → H0x D = none → Hx D = some (.lst acc) → H0y D = none := fun {H0x Hx H0y Hy} xx a b => by
        cases z : H0y D with
        | none => rfl
        | some u =>
          rcases xx.newb D u z with y | y
          · rw [a] at y; cases y
          · rw [b] at y; cases y
      have h3D := nD x3 h0D hDi
      have ecur : (ρ.set i (some (.own cur)))[i]? = some (some (.own cur)) := List.getElem?_set_self hil
      refine ⟨B, He, H03, wipeE (ρ.set i (some (.own cur))) vs, d, ρ1, s3.wipe vs, r3, eb, fun σ2 s2 w2 => ⟨?_, ?_⟩⟩
      · rw [w2 vs hts]
        apply List.ext_getElem?
        intro j
        have lw : (wipe (wipe σ vs) vs).length = (wipe σ vs).length := wipe_length _ _
        by_cases hj : j < (wipe σ vs).length
        · obtain ⟨z, ez⟩ : ∃ z, (wipe σ vs)[j]? = some z := ⟨_, List.getElem?_eq_getElem hj⟩
          rw [ez]
          cases z with
          | some v => exact wipe_keep ez (wipe_some ez).2
          | none =>
            obtain ⟨z2, ez2⟩ : ∃ z, (wipe (wipe σ vs) vs)[j]? = some z := ⟨_, List.getElem?_eq_getElem (by rw [lw]; exact hj)⟩
            rw [ez2]
            cases z2 with
            | none => rfl
            | some v2 =>
              have := (wipe_some ez2).1
              rw [ez] at this
              cases this
        · rw [List.getElem?_eq_none (by omega), List.getElem?_eq_none (by omega)]
      · unfold tYes
        dsimp only
        rw [if_pos rfl]
        obtain ⟨p, ws, ap, hp, _, _, hrp, _⟩ := s3.mut ecur
        -- slot i within the block
        have hσ2 : σ2[i]? = some (some (.ref p)) := by
          have a1 : (wipe (wipe σ vs) vs)[i]? = some (some (.ref p)) := wipe_keep (wipe_keep ap hi) hi
          rw [← w2 vs hts] at a1
          exact (wipe_some a1).1
        refine ⟨_, hσ2, .inl ⟨rfl, ws, SqL.of hp⟩, B, He, H03, ρ1, rj, s2, ej1, fun jv H04 H4 x4 w4 => ?_⟩
        unfold popAtD at ep
        split at ep
        case isFalse => cases ep
        rename_i hj
        obtain ⟨l, e5, ep1⟩ := Option.bind_eq_some_iff.mp ep
        obtain ⟨y', e6, e7⟩ := Option.map_eq_some_iff.mp ep1
        cases e7
        obtain ⟨p2, ws2, ap2, hp2, hHp2, h0p2, hrp2, up⟩ := (s3.step x4).mut ecur
        rw [ap] at ap2
        cases ap2
        obtain ⟨yv, ey, ry⟩ := hrp2.get e6
        have ln := hrp2.length
        refine ⟨p, ws2, j, l, yv, rfl, by rw [w4.1.toInt ej2], hp2, hj.1, hj.2, by rw [ln]; exact seqIndex_ixN e5, ey, ?_⟩
        have pD : p ≠ D := notD i _ p e0' rfl ap
        have h4D := nD x4 h3D hD3
        have hD4 := x4.keep _ _ hD3
        have s5 := up _ _ (hrp2.eraseIdx l)
        rw [List.set_set] at s5
        have hl : acc.length < sizeLine := by
          rw [ra.length]
          omega
        have sb : Same H0i H04 := x3.base.trans x4.base
        have hD5 : upd H4 p (.lst (ws2.eraseIdx l)) D = some (.lst acc) := by rw [upd_ne (Ne.symm pD)]; exact hD4
        refine ⟨acc, hD5, hl, H04, acc ++ [yv], done ++ [y], rest', cur.eraseIdx l, ?_, s0i.trans sb, upd_same, h4D, (RpAll.mono sb _ _ ra).snoc ry, by simp; omega, er4, by simpa using eo⟩
        -- the new list has grown: nothing else changed
        refine ⟨⟨fun c u e => ?_, s5.ext.base, fun c u e => ?_, s5.ext.newb⟩, s5.len, fun c u e => ?_, s5.dist⟩
        · rw [upd_ne (ne_of_none e hHeD)]; exact s5.ext.keep c u e
        · rw [upd_ne (ne_of_none e h4D)]; exact s5.ext.sub c u e
        · obtain ⟨v', a', b'⟩ := s5.slot c u e
          refine ⟨v', a', ?_, b'.2⟩
          cases ho : isOwn u with
          | false => exact (b'.2.2 ho).mono (Same.refl _) fun c u e => by rw [upd_ne (ne_of_none e hHeD)]; exact s5.ext.keep c u e
          | true =>
            obtain ⟨q1, u1, rfl, hq⟩ := b'.1.there ho
            have ne : q1 ≠ D := by
              by_cases hc : i = c
              · subst hc; rw [ap] at a'; cases a'; exact pD
              · rw [List.getElem?_set_ne hc] at e
                exact notD c u q1 e ho a'
            cases u with
            | own zs => obtain ⟨p1, ws, ep, hw, rw'⟩ := b'.1; cases ep; exact ⟨q1, ws, rfl, by rw [upd_ne ne]; exact hw, rw'⟩
            | dic zs => obtain ⟨p1, ws, ep, hw, rw'⟩ := b'.1; cases ep; exact ⟨q1, ws, rfl, by rw [upd_ne ne]; exact hw, rw'⟩
            | _ => cases ho
    · have e : n = ds.length := by omega
      subst e
      rw [List.drop_eq_nil_of_le (Nat.le_refl _)] at er
      cases er
      rw [List.append_nil] at eo
      subst eo
      refine .inl ⟨it.stop _ H0i Hi s0i si.ext.sub (s0i.trans si.ext.sub) rfl, k _ H0i Hi si (x.base.trans s0i) ⟨D, acc, rfl, hDi, ra⟩ fun _ => ⟨D, rfl, hHeD, h0D, fun j q e o hs => ?_⟩⟩
      by_cases hc : i = j
      · subst hc
        exact notD i _ D e0' rfl hs rfl
      · rw [List.getElem?_set_ne hc] at e
        exact notD j q D e o hs rfl
end Kd

/-! Kd12: the evaluator of statements. -/
namespace Kd
open PySem PySem.Spec PyProof.Rows L2

/-! ### expressions that may change lists of ours -/
def popK : Expr → Option (Str × List Expr)
  | .Call (.Attribute (.Name x _) m ap) args [] cp => if m = ("pop" : Str) ∧ (ap.endLine == cp.line) = true then some (x, args) else none
  | _ => none
theorem popK_ok {e : Expr} {x : Str} {args : List Expr} (h : popK e = some (x, args)) : ∃ px ap cp, e = .Call (.Attribute (.Name x px) ("pop" : Str) ap) args [] cp ∧ (ap.endLine == cp.line) = true := by
  unfold popK at h
  split at h
  · split at h
    · rename_i c
      obtain ⟨rfl, c⟩ := c
      cases h
      exact ⟨_, _, _, rfl, c⟩
    · cases h
  · cases h
def hasPop : Nat → Expr → Bool
  | 0, _ => false
  | n + 1, e => (popK e).isSome || (match e with
    | .ListComp elt _ _ _ => (popK elt).isSome
    | .Call _ args _ _ => (match oneArg args with
      | some a => hasPop n a
      | none => false)
    | .Subscript a _ _ => hasPop n a
    | _ => false)
inductive MK where
  | pop (x : Str) (args : List Expr)
  | comp (x : Str) (a tg it : Expr) (scope : Scope)
  | call (x : Str) (a : Expr)
  | cut (a : Expr) (lo hi : Option Expr)
  | pure
def mK (e : Expr) : MK := match popK e with
  | some (x, args) => .pop x args
  | none => match e with
    | .ListComp elt gens scope _ => (match popK elt, gen1 gens with
      | some (x, [a]), some (tg, it, []) => .comp x a tg it scope
      | _, _ => .pure)
    | .Call f args kws _ => (match callN f kws, oneArg args with
      | some x, some a => if hasPop 9 a = true then .call x a else .pure
      | _, _ => .pure)
    | .Subscript a i _ => (match slK i with
      | .cut lo hi => if hasPop 9 a = true then .cut a lo hi else .pure
      | _ => .pure)
    | _ => .pure
theorem mK_pop {e : Expr} {x : Str} {args : List Expr} (h : mK e = .pop x args) : popK e = some (x, args) := by
  unfold mK at h
  split at h
  · cases h; assumption
  · split at h
    · split at h <;> cases h
    · split at h
      · split at h <;> cases h
      · cases h
    · split at h
      · split at h <;> cases h
      · cases h
    · cases h
theorem mK_comp {e : Expr} {x : Str} {a tg it : Expr} {scope : Scope} (h : mK e = .comp x a tg it scope) : ∃ elt pos, e = .ListComp elt [⟨tg, it, [], 0⟩] scope pos ∧ popK elt = some (x, [a]) := by
  unfold mK at h
  split at h
  · cases h
  · split at h
    · split at h
      · rename_i h1 h2
        cases h
        have := gen1_ok h2
        subst this
        exact ⟨_, _, rfl, h1⟩
      · cases h
    · split at h
      · split at h <;> cases h
      · cases h
    · split at h
      · split at h <;> cases h
      · cases h
    · cases h
theorem mK_call {e : Expr} {x : Str} {a : Expr} (h : mK e = .call x a) : ∃ p pos, e = .Call (.Name x p) [a] [] pos := by
  unfold mK at h
  split at h
  · cases h
  · split at h
    · split at h <;> cases h
    · split at h
      · rename_i h1 h2
        split at h
        · cases h
          obtain ⟨p, rfl, rfl⟩ := callN_ok h1
          have := oneArg_ok h2
          subst this
          exact ⟨_, _, rfl⟩
        · cases h
      · cases h
    · split at h
      · split at h <;> cases h
      · cases h
    · cases h
theorem mK_cut {e a : Expr} {lo hi : Option Expr} (h : mK e = .cut a lo hi) : ∃ p pos, e = .Subscript a (.Slice lo hi none p) pos := by
  unfold mK at h
  split at h
  · cases h
  · split at h
    · split at h <;> cases h
    · split at h
      · split at h <;> cases h
      · cases h
    · split at h
      · rename_i h1
        split at h
        · cases h
          obtain ⟨p, rfl⟩ := slK_cut h1
          exact ⟨_, _, rfl⟩
        · cases h
      · cases h
    · cases h
/-- the depth of expressions that is looked at -/
abbrev EF : Nat := 60
def evM (T : Tab) (N : List Str) (sc : Scope) (fn : Str → Bool) : Nat → Expr → Env → Option (R × Env)
  | 0, _ => fun _ => none
  | n + 1, e => match mK e with
    | .pop x args => match ixOf N x with
      | some i => if (visB sc x && okN x) = true then (match args with
        | [] => fun ρ => (ownAt ρ i).bind fun ds => (popD ds).map fun s => (.v s.1, ρ.set i (some (.own s.2)))
        | [a] => if plainE a = true then fun ρ => (ownAt ρ i).bind fun ds => ((evE T N EF sc fn a ρ).bind toInt).bind fun j => (popAtD ds j).map fun s => (.v s.1, ρ.set i (some (.own s.2))) else fun _ => none
        | _ => fun _ => none) else fun _ => none
      | none => fun _ => none
    | .comp x a tg it scope => match ixOf N x with
      | some i => if (visB (relS scope sc) x && okN x && plainE a) = true ∧ blkC N sc scope (ownOf N (tgIx N 8 tg)) = true ∧ isSetE it = false ∧ i ∉ (ownOf N (tgIx N 8 tg)).map (·.2) then
          fun ρ => (evI T N EF sc fn tg it ρ).bind fun s => if s.1 = true then (ownAt ρ i).bind fun ds => (compP i ((ownOf N (tgIx N 8 tg)).map (·.2)) (bindT N (relS scope sc) (fnB scope) 8 tg) (evE T N EF (relS scope sc) (fnB scope) a) ρ s.2 ds).map fun t => (.own t.1, ρ.set i (some (.own t.2))) else none
        else fun _ => none
      | none => fun _ => none
    | .call x a => if (glB sc x && okN x && plainE a) = true ∧ x ∈ T.free then (match blt x with
        | some (_, _, g) => fun ρ => (evM T N sc fn n a ρ).bind fun s => (g [argR s.1]).map fun r => (r, s.2)
        | none => fun _ => none) else fun _ => none
    | .cut a lo hi => fun ρ => (evM T N sc fn n a ρ).bind fun s => (evO T N EF sc fn lo s.2).bind fun l => (evO T N EF sc fn hi s.2).bind fun h => (slR s.1 l h).map fun r => (r, s.2)
    | .pure => fun ρ => (evE T N EF sc fn e ρ).map fun r => (r, ρ)

/-! ### statements -/
inductive Fl where
  | nx (ρ : Env)
  | bk (ρ : Env)
  | ct (ρ : Env)
  | ret (r : R)
/-- names that are handed on -/
def esc : Nat → Expr → List Str
  | 0, _ => []
  | n + 1, e => match e with
    | .Name x _ => [x]
    | .Tuple es _ _ => es.flatMap (esc n)
    | .List es _ => es.flatMap (esc n)
    | .IfExp _ a b _ => esc n a ++ esc n b
    | .BoolOp _ es _ => es.flatMap (esc n)
    | _ => []
def forL (step : D → Env → Option Fl) : List D → Env → Option Fl
  | [], ρ => some (.nx ρ)
  | d :: ds, ρ => (step d ρ).bind fun f => match f with
    | .nx ρ' => forL step ds ρ'
    | .ct ρ' => forL step ds ρ'
    | .bk ρ' => some (.nx ρ')
    | .ret r => some (.ret r)
def whileL (test : Env → Option Bool) (body : Env → Option Fl) : Nat → Env → Option Fl
  | 0, _ => none
  | n + 1, ρ => (test ρ).bind fun b => if b = true then (body ρ).bind fun f => match f with
      | .nx ρ' => whileL test body n ρ'
      | .ct ρ' => whileL test body n ρ'
      | .bk ρ' => some (.nx ρ')
      | .ret r => some (.ret r)
    else some (.nx ρ)
/-- a list's name that a for walks -/
def walkN : Expr → List Str
  | .Name x _ => [x]
  | .Call (.Name f _) [.Name x _] _ _ => if f = ("enumerate" : Str) ∨ f = ("reversed" : Str) then [x] else []
  | _ => []
def isTupE : Expr → Bool
  | .Tuple .. => true
  | .List .. => true
  | _ => false
def isSlice : Expr → Bool
  | .Slice .. => true
  | _ => false
/-- x[i] as a target -/
def subK : Expr → Option (Str × Expr)
  | .Subscript (.Name x _) i _ => if isSlice i = false then some (x, i) else none
  | _ => none
theorem subK_ok {e i : Expr} {x : Str} (h : subK e = some (x, i)) : ∃ p pos, e = .Subscript (.Name x p) i pos ∧ isSlice i = false := by
  unfold subK at h
  split at h
  · split at h
    · rename_i c; cases h; exact ⟨_, _, rfl, c⟩
    · cases h
  · cases h
/-- what is stored to x[i] -/
def stS (T : Tab) (N : List Str) (sc : Scope) (fn : Str → Bool) : Option (Str × Expr) → R → Env → Option Env
  | none => fun _ _ => none
  | some (x, i) => match ixOf N x with
    | some ix => if (visB sc x && okN x) = true then fun r ρ => (toV r).bind fun d => (ownAt ρ ix).bind fun ds => ((evE T N EF sc fn i ρ).bind toInt).bind fun j => (ixN ds.length j).map fun l => ρ.set ix (some (.own (ds.set l d))) else fun _ _ => none
    | none => fun _ _ => none
/-- what is stored to a target -/
def stT (T : Tab) (N : List Str) (sc : Scope) (fn : Str → Bool) (tg e : Expr) : R → Env → Option Env := match tg with
  | .Name x _ => match ixOf N x with
    | some i => if locB sc fn x = true then fun r ρ => if stoR r = true then some (ρ.set i (some r)) else none else fun _ _ => none
    | none => fun _ _ => none
  | .Tuple es k p => if isTupE e = false then fun r ρ => (toV r).bind fun d => bindT N sc fn 8 (.Tuple es k p) d ρ else fun _ _ => none
  | tg => stS T N sc fn (subK tg)
/-- x.append(a) -/
def appK : Expr → Option (Str × Str × Expr)
  | .Call (.Attribute (.Name x _) m ap) [a] [] cp => if (m = ("append" : Str) ∨ m = ("extend" : Str)) ∧ (ap.endLine == cp.line) = true ∧ plainE a = true then some (x, m, a) else none
  | _ => none
theorem appK_ok {e a : Expr} {x m : Str} (h : appK e = some (x, m, a)) : ∃ px ap cp, e = .Call (.Attribute (.Name x px) m ap) [a] [] cp ∧ (m = ("append" : Str) ∨ m = ("extend" : Str)) ∧ (ap.endLine == cp.line) = true ∧ plainE a = true := by
  unfold appK at h
  split at h
  · split at h
    · rename_i c; cases h; exact ⟨_, _, _, rfl, c⟩
    · cases h
  · cases h
def addK : Operator → Option (Int → Int → Int)
  | .Add => some fun a b => a + b
  | .Sub => some fun a b => a - b
  | _ => none
/-- the turns of a while that are looked at -/
abbrev WF : Nat := 100000
mutual
def exS (T : Tab) (N : List Str) (sc : Scope) (fn : Str → Bool) : Nat → Stmt → Env → Option Fl
  | 0, _ => fun _ => none
  | n + 1, s => match s with
    | .Assign [tg] e _ => fun ρ => (evM T N sc fn 9 e (frz N ρ (esc 8 e))).bind fun s => (stT T N sc fn tg e s.1 s.2).map .nx
    | .Expr e _ => match e with
      | .Constant (.str _) _ _ => fun ρ => some (.nx ρ)
      | e => match appK e with
        | some (x, m, a) => match ixOf N x with
          | some i => if (visB sc x && okN x) = true then
              (if m = ("append" : Str) then fun ρ => ((evE T N EF sc fn a (frz N ρ (esc 8 a))).bind toV).bind fun d => (ownAt (frz N ρ (esc 8 a)) i).bind fun ds => if ds.length < sizeLine then some (.nx ((frz N ρ (esc 8 a)).set i (some (.own (ds ++ [d]))))) else none
              else fun ρ => ((evE T N EF sc fn a ρ).bind toSeq).bind fun s => (ownAt ρ i).bind fun ds => if s.1 = false ∧ ds.length + s.2.length ≤ sizeLine then some (.nx (ρ.set i (some (.own (ds ++ s.2))))) else none)
            else fun _ => none
          | none => fun _ => none
        | none => fun _ => none
    | .AugAssign tg op e _ => match nameOf tg, addK op with
      | some x, some g => match ixOf N x with
        | some i => if (locB sc fn x && visB sc x && okN x) = true then fun ρ => ((getE ρ i).bind toInt).bind fun a => ((evE T N EF sc fn e ρ).bind toInt).bind fun b => some (.nx (ρ.set i (some (I (g a b))))) else fun _ => none
        | none => fun _ => none
      | _, _ => fun _ => none
    | .If c a b _ => fun ρ => (evT T N EF sc fn c ρ).bind fun t => if t = true then exB T N sc fn n a ρ else exB T N sc fn n b ρ
    | .For tg it body els _ => match els with
      | [] => if isSetE it = false then fun ρ => (evI T N EF sc fn tg it (frz N ρ (walkN it))).bind fun s => if s.1 = true then forL (fun d ρ => (bindT N sc fn 8 tg d ρ).bind fun ρ' => exB T N sc fn n body ρ') s.2 (frz N ρ (walkN it)) else none else fun _ => none
      | _ => fun _ => none
    | .While c body els _ => match els with
      | [] => whileL (evT T N EF sc fn c) (exB T N sc fn n body) WF
      | _ => fun _ => none
    | .Return o _ => match o with
      | none => fun _ => some (.ret Non)
      | some e => fun ρ => match ((nameOf e).bind fun x => if (visB sc x && okN x) = true then (ixOf N x).bind fun i => (getE ρ i).bind fun r => if isOwn r = true then some r else none else none) with
        | some r => some (.ret r)
        | none => (evM T N sc fn 9 e (frz N ρ (esc 8 e))).bind fun s => if stoR s.1 = true then some (.ret s.1) else none
    | .Pass _ => fun ρ => some (.nx ρ)
    | .Break _ => fun ρ => some (.bk ρ)
    | .Continue _ => fun ρ => some (.ct ρ)
    | _ => fun _ => none
def exB (T : Tab) (N : List Str) (sc : Scope) (fn : Str → Bool) : Nat → List Stmt → Env → Option Fl
  | 0, _ => fun _ => none
  | n + 1, ss => match ss with
    | [] => fun ρ => some (.nx ρ)
    | s :: r => fun ρ => (exS T N sc fn n s ρ).bind fun f => match f with
      | .nx ρ' => exB T N sc fn n r ρ'
      | f => some f
end
end Kd

/-! Kd13: the evaluator of statements is sound. -/
namespace Kd
open PySem PySem.Spec PyProof.Rows L2

section
variable {X : Cx}
/-- an expression, also as what a name is bound to -/
structure PAs (X : Cx) (e : Expr) (t : TE) : Prop where
  val : PE X e t
  set : ∀ (i : Nat) (y : Str) (py pos : Pos), X.N.Nodup → X.N[i]? = some y → L2.Loc X.env.scope y → (X.fn y = true ∨ X.env.scope.names.lookup y = some .local) → PS X (.Assign [.Name y py] e pos) (tAsg t (gName i))
theorem PS.imp {s : Stmt} {t t' : TS} (h : PS X s t) (i : ∀ D σ H, t' D σ H → t D σ H) : PS X s t' := ⟨fun pins st σ H D I q => h.run pins st σ H D I (i D σ H q)⟩
theorem PSs.imp {s : List Stmt} {t t' : TS} (h : PSs X s t) (i : ∀ D σ H, t' D σ H → t D σ H) : PSs X s t' := ⟨fun pins st σ H D I q => h.run pins st σ H D I (i D σ H q)⟩
theorem PAs.imp {e : Expr} {t t' : TE} (h : PAs X e t) (i : ∀ σ H Q, t' σ H Q → t σ H Q) : PAs X e t' := ⟨PE.imp h.val i, fun j y py pos a b c d => PS.imp (h.set j y py pos a b c d) fun D σ H q => i σ H _ q⟩
def isComp : Expr → Bool
  | .ListComp .. => true
  | .SetComp .. => true
  | .DictComp .. => true
  | _ => false
theorem PAs.of {e : Expr} {t : TE} (h : PE X e t) (hc : isComp e = false) : PAs X e t := ⟨h, fun i y py pos hN hi hx hf => by
  refine ps_set hN hi hx h ?_ hf
  cases e <;> first | rfl | cases hc⟩
theorem PAs.lc {elt tg iter : Expr} {ifs : List Expr} {scope : Scope} {own : List (Str × Nat)} {pos : Pos} {wi : TI} {g : TG} {tt : TT} {te : TE} (hc : X.calm = true) (hN : X.N.Nodup) (hi : PI X tg iter wi) (ok : BlkOk X.N X.env.scope scope own)
    (hg : ∀ (s : Shared) (H : Hp) (C : Addr) (cl : List (Str × Addr)) (fp : List Addr), PG (X.blk s H scope (compEnvC scope cl C X.env) fp) tg g) (ht : ∀ (s : Shared) (H : Hp) (C : Addr) (cl : List (Str × Addr)) (fp : List Addr), PTs (X.blk s H scope (compEnvC scope cl C X.env) fp) ifs tt)
    (he : ∀ (s : Shared) (H : Hp) (C : Addr) (cl : List (Str × Addr)) (fp : List Addr), PE (X.blk s H scope (compEnvC scope cl C X.env) fp) elt te) (hs : ∀ x, foldedSetIterable iter X.env x = pure x) :
    PAs X (.ListComp elt [⟨tg, iter, ifs, 0⟩] scope pos) (tLc wi g tt te (own.map (·.2))) := by
  refine ⟨pe_lc hc hN hi ok hg ht he hs, fun i y py spos hN hy hx hf => ?_⟩
  have e : swapsWith (.ListComp elt [⟨tg, iter, ifs, 0⟩] scope pos) (some (.Name y py)) spos.line X.env = pure (X.env.blockKind == .function && X.env.kindOf y == some .local && py.line == pos.line && !(scope.names.any fun (n, k) => n == y && (k == .local || k == .cell))) := rfl
  cases hb : (X.env.blockKind == .function && X.env.kindOf y == some .local && py.line == pos.line && !(scope.names.any fun (n, k) => n == y && (k == .local || k == .cell))) with
  | true =>
    rw [hb] at e
    have hyl : X.env.scope.names.lookup y = some .local := by
      simp only [Bool.and_eq_true] at hb
      exact eq_of_beq hb.1.1.2
    exact ps_setLc hc hN hy hyl e hi ok hg ht he hs
  | false =>
    rw [hb] at e
    exact ps_set hN hy hx (pe_lc hc hN hi ok hg ht he hs) e hf
theorem pas_never {e : Expr} (h : PE X e (tM X.K fun _ => none)) : PAs X e (tM X.K fun _ => none) := ⟨h, fun i y py pos hN hy hx hf => ⟨fun pins s σ H D I ⟨_, _, _, _, _, _, _, q, _⟩ => by cases q⟩⟩
end

section
variable {T : Tab} {N : List Str} {sc : Scope} {fn : Str → Bool} {k : Nat} {X : Cx}
theorem sndM (c : Cxt T N sc fn k X) : ∀ (n : Nat) (e : Expr), PAs X e (tM X.K (evM T N sc fn n e))
  | 0, e => pas_never pm_never
  | n + 1, e => by
    have S := snd T N k EF
    show PAs X e (tM X.K (match mK e with
    | .pop x args => match ixOf N x with
      | some i => if (visB sc x && okN x) = true then (match args with
        | [] => fun ρ => (ownAt ρ i).bind fun ds => (popD ds).map fun s => (.v s.1, ρ.set i (some (.own s.2)))
        | [a] => if plainE a = true then fun ρ => (ownAt ρ i).bind fun ds => ((evE T N EF sc fn a ρ).bind toInt).bind fun j => (popAtD ds j).map fun s => (.v s.1, ρ.set i (some (.own s.2))) else fun _ => none
        | _ => fun _ => none) else fun _ => none
      | none => fun _ => none
    | .comp x a tg it scope => match ixOf N x with
      | some i => if (visB (relS scope sc) x && okN x && plainE a) = true ∧ blkC N sc scope (ownOf N (tgIx N 8 tg)) = true ∧ isSetE it = false ∧ i ∉ (ownOf N (tgIx N 8 tg)).map (·.2) then
          fun ρ => (evI T N EF sc fn tg it ρ).bind fun s => if s.1 = true then (ownAt ρ i).bind fun ds => (compP i ((ownOf N (tgIx N 8 tg)).map (·.2)) (bindT N (relS scope sc) (fnB scope) 8 tg) (evE T N EF (relS scope sc) (fnB scope) a) ρ s.2 ds).map fun t => (.own t.1, ρ.set i (some (.own t.2))) else none
        else fun _ => none
      | none => fun _ => none
    | .call x a => if (glB sc x && okN x && plainE a) = true ∧ x ∈ T.free then (match blt x with
        | some (_, _, g) => fun ρ => (evM T N sc fn n a ρ).bind fun s => (g [argR s.1]).map fun r => (r, s.2)
        | none => fun _ => none) else fun _ => none
    | .cut a lo hi => fun ρ => (evM T N sc fn n a ρ).bind fun s => (evO T N EF sc fn lo s.2).bind fun l => (evO T N EF sc fn hi s.2).bind fun h => (slR s.1 l h).map fun r => (r, s.2)
    | .pure => fun ρ => (evE T N EF sc fn e ρ).map fun r => (r, ρ)))
    have never : PAs X e (tM X.K fun _ => none) := pas_never pm_never
    split
    · rename_i x args h
      obtain ⟨px, ap, cp, rfl, hl⟩ := popK_ok (mK_pop h)
      split
      · rename_i i hi
        split
        · rename_i hv
          rw [Bool.and_eq_true] at hv
          obtain ⟨d1, d2, d3⟩ := okN_all hv.2
          match args with
          | [] => exact PAs.of (pm_pop (by rw [c.eN]; exact ixOf_get hi) (c.vis hv.1) d1 d2 hl) rfl
          | [a] =>
            dsimp only
            split
            · rename_i hp
              exact PAs.of (pm_popAt (by rw [c.eN]; exact ixOf_get hi) (c.vis hv.1) d1 d2 hl (S.sE X sc fn a c) hp) rfl
            · exact never
          | _ :: _ :: _ => exact never
        · exact never
      · exact never
    · rename_i x a tg it scope h
      obtain ⟨elt, pos, rfl, hpk⟩ := mK_comp h
      obtain ⟨px, ap, cp, rfl, hl⟩ := popK_ok hpk
      split
      · rename_i i hi
        split
        · rename_i hh
          obtain ⟨hv, h1, h2, h3⟩ := hh
          rw [Bool.and_eq_true, Bool.and_eq_true] at hv
          obtain ⟨⟨hv1, hv2⟩, hp⟩ := hv
          obtain ⟨d1, d2, d3⟩ := okN_all hv2
          have ok : BlkOk X.N X.env.scope scope (ownOf N (tgIx N 8 tg)) := by rw [c.eN, c.esc]; exact blkOk_by h1
          refine PAs.imp (PAs.lc (g := gD X.K (tgIx N 8 tg) (bindT N (relS scope sc) (fnB scope) 8 tg)) (tt := tYes) (te := tBM X.K "list" rPopAt (tVar i) (tCons (tR X.K (evE T N EF (relS scope sc) (fnB scope) a)) tNil)) c.calm (by rw [c.eN]; exact c.nd) (S.sI X sc fn tg it c) ok
            (fun s H C cl fp => pr_tg (c.blk (scope := scope) s H C cl fp) 8 tg) (fun s H C cl fp => pts_nil) (fun s H C cl fp => ?_) (foldS h2)) fun σ H Q h => tLc_pop (ownOf_mem (tgIx_ok 8 tg)) h3 h
          have cb := c.blk (scope := scope) s H C cl fp
          have hs1 : starEach [a] (X.blk s H scope (compEnvC scope cl C X.env) fp).env = (false, eval a (X.blk s H scope (compEnvC scope cl C X.env) fp).env) :: starEach [] (X.blk s H scope (compEnvC scope cl C X.env) fp).env := starEach_plain hp
          exact pe_bm PySem.F.plainAttrs_list PySem.F.slot_list_pop PySem.F.type_list_pop mt_popAt (pe_var (by rw [cb.eN]; exact ixOf_get hi) (cb.vis hv1) d1 d2) (pa_cons (S.sE _ _ _ a cb) pa_nil hs1) (by rfl) (by rw [hs1]; rfl) hl hs1 (by rfl)
        · exact never
      · exact never
    · rename_i x a h
      obtain ⟨p, pos, rfl⟩ := mK_call h
      split
      · rename_i hh
        obtain ⟨hh, hf⟩ := hh
        rw [Bool.and_eq_true, Bool.and_eq_true] at hh
        obtain ⟨⟨h1, h2⟩, h3⟩ := hh
        obtain ⟨d1, d2, d3⟩ := okN_all h2
        split
        · rename_i b id g hb
          obtain ⟨o1, o2⟩ := blt_ok (X := X) c.calm c.units hb
          exact PAs.of (pm_call o1 o2 (c.gl h1) (c.free _ hf) d3 d1 (sndM c n a).val h3) rfl
        · exact never
      · exact never
    · rename_i a lo hi h
      obtain ⟨p, pos, rfl⟩ := mK_cut h
      exact PAs.of (pm_slice (sndM c n a).val (S.sO X sc fn lo c) (S.sO X sc fn hi c)) rfl
    · cases hc : isComp e with
      | false => exact PAs.of (PE.mut (S.sE X sc fn e c)) hc
      | true =>
        cases e with
        | ListComp elt gens scope pos =>
          have S' := snd T N k 59
          have e0 : evE T N EF sc fn (.ListComp elt gens scope pos) = (match gen1 gens with
            | some (tg, it, ifs) =>
              if blkC N sc scope (ownOf N (tgIx N 8 tg)) = true ∧ isSetE it = false then
                fun ρ => (evI T N 59 sc fn tg it ρ).bind fun s =>
                  (compL (turnC (bindT N (relS scope sc) (fnB scope) 8 tg) (evF T N 59 (relS scope sc) (fnB scope) ifs) (fun ρ => (evE T N 59 (relS scope sc) (fnB scope) elt ρ).bind toV) (wipeE ρ ((ownOf N (tgIx N 8 tg)).map (·.2)))) s.2).map .own
              else fun _ => none
            | none => fun _ => none) := rfl
          rw [e0]
          split
          · rename_i tg it ifs h
            have := gen1_ok h
            subst this
            split
            · rename_i h
              obtain ⟨h1, h2⟩ := h
              have ok : BlkOk X.N X.env.scope scope (ownOf N (tgIx N 8 tg)) := by rw [c.eN, c.esc]; exact blkOk_by h1
              refine PAs.imp (PAs.lc (g := gD X.K (tgIx N 8 tg) (bindT N (relS scope sc) (fnB scope) 8 tg)) (tt := tT X.K (evF T N 59 (relS scope sc) (fnB scope) ifs)) (te := tV X.K fun ρ => (evE T N 59 (relS scope sc) (fnB scope) elt ρ).bind toV) c.calm (by rw [c.eN]; exact c.nd) (S'.sI X sc fn tg it c) ok
                (fun s H C cl fp => pr_tg (c.blk (scope := scope) s H C cl fp) 8 tg) (fun s H C cl fp => S'.sF _ _ _ ifs (c.blk (scope := scope) s H C cl fp)) (fun s H C cl fp => PE.toV (S'.sE _ _ _ elt (c.blk (scope := scope) s H C cl fp))) (foldS h2)) fun σ H Q h => ?_
              exact tLc_of (ownOf_mem (tgIx_ok 8 tg)) (tM_of h)
            · exact PAs.imp never fun σ H Q ⟨_, _, _, _, _, _, _, q, _⟩ => by cases q
          · exact PAs.imp never fun σ H Q ⟨_, _, _, _, _, _, _, q, _⟩ => by cases q
        | SetComp elt gens scope pos => exact PAs.imp never fun σ H Q ⟨_, _, _, _, _, _, _, q, _⟩ => by cases q
        | DictComp k v gens scope pos => exact PAs.imp never fun σ H Q ⟨_, _, _, _, _, _, _, q, _⟩ => by cases q
        | _ => cases hc
end

/-! ### statements -/
def OkFl (K : PySem.W.Frag) (B He H0 : Hp) (D : Ends) : Fl → Prop
  | .nx ρ' => ∀ σ' H0' H', Ks K B He H0' H' σ' ρ' → Same H0 H0' → D.nx σ' H'
  | .bk ρ' => ∀ σ' H0' H', Ks K B He H0' H' σ' ρ' → Same H0 H0' → D.bk σ' H'
  | .ct ρ' => ∀ σ' H0' H', Ks K B He H0' H' σ' ρ' → Same H0 H0' → D.ct σ' H'
  | .ret r => ∀ v H0' H', Ext B He H0' H' → Same H0 H0' → Res K He H0' H' v r → D.rt v H'
theorem OkFl.mono {K : PySem.W.Frag} {B He H0 H1 : Hp} {D : Ends} (s : Same H0 H1) : ∀ {fl : Fl}, OkFl K B He H0 D fl → OkFl K B He H1 D fl
  | .nx _, h => fun σ' H0' H' a b => h σ' H0' H' a (s.trans b)
  | .bk _, h => fun σ' H0' H' a b => h σ' H0' H' a (s.trans b)
  | .ct _, h => fun σ' H0' H' a b => h σ' H0' H' a (s.trans b)
  | .ret _, h => fun σ' H0' H' a b => h σ' H0' H' a (s.trans b)
def tX (K : PySem.W.Frag) (f : Env → Option Fl) : TS := fun D σ H => ∃ B He H0 ρ fl, Ks K B He H0 H σ ρ ∧ f ρ = some fl ∧ OkFl K B He H0 D fl
section
variable {X : Cx}
theorem px_never {s : Stmt} : PS X s (tX X.K fun _ => none) := ⟨fun _ _ _ _ _ _ ⟨_, _, _, _, _, _, q, _⟩ => by cases q⟩
theorem pxs_never {s : List Stmt} : PSs X s (tX X.K fun _ => none) := ⟨fun _ _ _ _ _ _ ⟨_, _, _, _, _, _, q, _⟩ => by cases q⟩
theorem pxs_cons {s : Stmt} {r : List Stmt} {f g : Env → Option Fl} (h1 : PS X s (tX X.K f)) (h2 : PSs X r (tX X.K g)) : PSs X (s :: r) (tX X.K fun ρ => (f ρ).bind fun fl => match fl with
      | .nx ρ' => g ρ'
      | fl => some fl) :=
  PSs.imp (pss_cons h1 h2) fun D σ H ⟨B, He, H0, ρ, fl, s, q, k⟩ => by
    obtain ⟨fl1, e1, e2⟩ := Option.bind_eq_some_iff.mp q
    refine ⟨B, He, H0, ρ, fl1, s, e1, ?_⟩
    cases fl1 with
    | nx ρ' => exact fun σ' H0' H' s' b' => ⟨B, He, H0', ρ', fl, s', e2, k.mono b'⟩
    | bk ρ' => cases e2; exact k
    | ct ρ' => cases e2; exact k
    | ret r => cases e2; exact k
/-- for -/
theorem px_for {tg it : Expr} {body : List Stmt} {pos : Pos} {fi : Env → Option (Bool × List D)} {ts : List Nat} {b : D → Env → Option Env} {fb : Env → Option Fl} (hp : PassesOwn (model X.prog X.w) X.A X.env X.xe) (hc : X.calm = true) (hi : PI X tg it (iD X.K fi)) (hg : PG X tg (gD X.K ts b)) (hb : PSs X body (tX X.K fb))
    (hs : ∀ x, foldedSetIterable it X.env x = pure x) : PS X (.For tg it body [] pos) (tX X.K fun ρ => (fi ρ).bind fun s => if s.1 = true then forL (fun d ρ => (b d ρ).bind fun ρ' => fb ρ') s.2 ρ else none) :=
  PS.imp (ps_for hp hc hi hg hb hs) fun D σ H ⟨B, He, H0, ρ, fl, s, q, k⟩ => by
    obtain ⟨⟨bb, ds⟩, e1, q⟩ := Option.bind_eq_some_iff.mp q
    dsimp only at q
    split at q
    case isFalse => cases q
    rename_i hbb
    subst hbb
    refine ⟨B, He, H0, ρ, true, ds, s, e1, fun J H0' H' x it hz => ?_⟩
    rw [if_pos rfl] at it
    refine ⟨fun n m σ1 Hi => m = ds.length - n ∧ n ≤ ds.length ∧ ∃ H0i ρi, Ks X.K B He H0i Hi σ1 ρi ∧ Same H0' H0i ∧ forL (fun d ρ => (b d ρ).bind fun ρ' => fb ρ') (ds.drop n) ρi = some fl, ⟨ds.length, by simp, Nat.zero_le _, H0', ρ, s.step x, Same.refl _, by simpa using q⟩, ?_⟩
    rintro n m σ1 Hi ⟨rfl, hn, H0i, ρi, si, s0i, er⟩
    by_cases hlt : n < ds.length
    · refine .inr ⟨it.go n H0i Hi s0i si.ext.sub (s0i.trans si.ext.sub) hlt, ?_⟩
      refine ⟨fun σ2 H2 => ∃ H0n ρn, Ks X.K B He H0n H2 σ2 ρn ∧ Same H0' H0n ∧ forL (fun d ρ => (b d ρ).bind fun ρ' => fb ρ') (ds.drop (n + 1)) ρn = some fl, fun σ2 H2 h => ⟨ds.length - (n + 1), by omega, rfl, hlt, h⟩, fun xv H3 hy => ?_⟩
      obtain ⟨H03, d, ed, x3, r3⟩ := it.yld n H0i Hi xv H3 s0i si.ext.sub (s0i.trans si.ext.sub) hlt hy
      have edr : ds.drop n = d :: ds.drop (n + 1) := by
        rw [List.drop_eq_getElem_cons hlt]
        congr 1
        have := List.getElem?_eq_getElem hlt
        rw [ed] at this
        exact (Option.some.inj this).symm
      rw [edr] at er
      obtain ⟨f1, e2, e3⟩ := Option.bind_eq_some_iff.mp er
      obtain ⟨ρ1, e4, e5⟩ := Option.bind_eq_some_iff.mp e2
      have s3 := si.step x3
      have b3 : Same H0' H03 := s0i.trans x3.base
      refine ⟨B, He, H03, ρi, d, ρ1, s3, r3, e4, fun σ2 s2 _ => ?_⟩
      refine ⟨B, He, H03, ρ1, f1, s2, e5, ?_⟩
      cases f1 with
      | nx ρ' => exact fun σ' H0'' H'' a1 a2 => ⟨H0'', ρ', a1, b3.trans a2, e3⟩
      | ct ρ' => exact fun σ' H0'' H'' a1 a2 => ⟨H0'', ρ', a1, b3.trans a2, e3⟩
      | bk ρ' =>
        cases e3
        exact fun σ' H0'' H'' a1 a2 => k σ' H0'' H'' a1 (x.base.trans (b3.trans a2))
      | ret r =>
        cases e3
        exact fun v H0'' H'' a1 a2 a3 => k v H0'' H'' a1 (x.base.trans (b3.trans a2)) a3
    · have e : n = ds.length := by omega
      subst e
      rw [List.drop_eq_nil_of_le (Nat.le_refl _)] at er
      cases er
      exact .inl ⟨it.stop _ H0i Hi s0i si.ext.sub (s0i.trans si.ext.sub) rfl, k _ H0i Hi si (x.base.trans s0i)⟩
/-- while -/
theorem px_while {t : Expr} {body : List Stmt} {pos : Pos} {ft : Env → Option Bool} {fb : Env → Option Fl} (n : Nat) (hp : PassesOwn (model X.prog X.w) X.A X.env X.xe) (ht : PT X t (tT X.K ft)) (hb : PSs X body (tX X.K fb)) : PS X (.While t body [] pos) (tX X.K (whileL ft fb n)) :=
  PS.imp (ps_while hp ht hb) fun D σ H ⟨B, He, H0, ρ, fl, s, q, k⟩ => by
    refine ⟨fun m σ1 H1 => ∃ H01 ρ1, Ks X.K B He H01 H1 σ1 ρ1 ∧ Same H0 H01 ∧ whileL ft fb m ρ1 = some fl, ⟨n, H0, ρ, s, Same.refl _, q⟩, ?_⟩
    rintro m σ1 H1 ⟨H01, ρ1, s1, b1, e⟩
    cases m with
    | zero => cases e
    | succ m =>
      obtain ⟨bb, e1, e2⟩ := Option.bind_eq_some_iff.mp e
      refine ⟨B, He, H01, ρ1, bb, s1, e1, fun H02 H2 x => ?_⟩
      cases bb with
      | false =>
        rw [if_neg (by simp)] at e2 ⊢
        cases e2
        exact k _ H02 H2 (s1.step x) (b1.trans x.base)
      | true =>
        rw [if_pos rfl] at e2 ⊢
        obtain ⟨f1, e3, e4⟩ := Option.bind_eq_some_iff.mp e2
        refine ⟨fun σ3 H3 => ∃ H03 ρ3, Ks X.K B He H03 H3 σ3 ρ3 ∧ Same H0 H03 ∧ whileL ft fb m ρ3 = some fl, fun σ3 H3 h => ⟨m, Nat.lt_succ_self _, h⟩, B, He, H02, ρ1, f1, s1.step x, e3, ?_⟩
        have b2 := b1.trans x.base
        cases f1 with
        | nx ρ' => exact fun σ' H0'' H'' a1 a2 => ⟨H0'', ρ', a1, b2.trans a2, e4⟩
        | ct ρ' => exact fun σ' H0'' H'' a1 a2 => ⟨H0'', ρ', a1, b2.trans a2, e4⟩
        | bk ρ' =>
          cases e4
          exact fun σ' H0'' H'' a1 a2 => k σ' H0'' H'' a1 (b2.trans a2)
        | ret r =>
          cases e4
          exact fun v H0'' H'' a1 a2 a3 => k v H0'' H'' a1 (b2.trans a2) a3
end
section
variable {T : Tab} {N : List Str} {sc : Scope} {fn : Str → Bool} {k : Nat} {X : Cx}
theorem Cxt.pass (c : Cxt T N sc fn k X) : PassesOwn (model X.prog X.w) X.A X.env X.xe := by
  rw [c.xe]
  exact PassesOwn.never
theorem Cxt.loc (c : Cxt T N sc fn k X) {x : Str} (h : locB sc fn x = true) : L2.Loc X.env.scope x ∧ (X.fn x = true ∨ X.env.scope.names.lookup x = some .local) := by
  rw [c.esc]
  exact c.efn x h
/-- a frozen start -/
theorem tX_frz {K : PySem.W.Frag} {N : List Str} {f : Env → Option Fl} {xs : List Str} {D : Ends} {σ : L2.St} {H : Hp} (h : tX K (fun ρ => f (frz N ρ xs)) D σ H) : tX K f D σ H := by
  obtain ⟨B, He, H0, ρ, fl, s, q, kk⟩ := h
  obtain ⟨H0', b, s'⟩ := s.frz N xs
  exact ⟨B, He, H0', _, fl, s', q, kk.mono b⟩
theorem sndAsg (c : Cxt T N sc fn k X) (tg e : Expr) (pos : Pos) : PS X (.Assign [tg] e pos) (tX X.K fun ρ => (evM T N sc fn 9 e (frz N ρ (esc 8 e))).bind fun s => (stT T N sc fn tg e s.1 s.2).map .nx) := by
  have P := sndM c 9 e
  refine PS.imp (t := tX X.K fun ρ => (evM T N sc fn 9 e ρ).bind fun s => (stT T N sc fn tg e s.1 s.2).map .nx) ?_ fun D σ H h => tX_frz (f := fun ρ => (evM T N sc fn 9 e ρ).bind fun s => (stT T N sc fn tg e s.1 s.2).map .nx) h
  have never : (∀ r ρ, stT T N sc fn tg e r ρ = none) → PS X (.Assign [tg] e pos) (tX X.K fun ρ => (evM T N sc fn 9 e ρ).bind fun s => (stT T N sc fn tg e s.1 s.2).map .nx) := fun h => ⟨fun pins st σ H D I ⟨B, He, H0, ρ, fl, s, q, kk⟩ => by
    obtain ⟨⟨r, ρ1⟩, e1, e2⟩ := Option.bind_eq_some_iff.mp q
    rw [h] at e2
    cases e2⟩
  have sub : ∀ x i, subK tg = some (x, i) → (∀ y p, tg ≠ .Name y p) → (∀ es q p, tg ≠ .Tuple es q p) → PS X (.Assign [tg] e pos) (tX X.K fun ρ => (evM T N sc fn 9 e ρ).bind fun s => (stT T N sc fn tg e s.1 s.2).map .nx) := by
    intro x i hk _ _
    obtain ⟨px, ps, rfl, hsl⟩ := subK_ok hk
    have e0 : stT T N sc fn (.Subscript (.Name x px) i ps) e = stS T N sc fn (subK (.Subscript (.Name x px) i ps)) := rfl
    have e9 : stS T N sc fn (some (x, i)) = (match ixOf N x with
      | some ix => if (visB sc x && okN x) = true then fun r ρ => (toV r).bind fun d => (ownAt ρ ix).bind fun ds => ((evE T N EF sc fn i ρ).bind toInt).bind fun j => (ixN ds.length j).map fun l => ρ.set ix (some (.own (ds.set l d))) else fun _ _ => none
      | none => fun _ _ => none) := rfl
    rw [e0, hk, e9]
    clear e0 e9
    split
    · rename_i ix hix
      split
      · rename_i hv
        rw [Bool.and_eq_true] at hv
        obtain ⟨d1, d2, d3⟩ := okN_all hv.2
        have S := snd T N k EF
        refine PS.imp (ps_asg P.val (pg_sub (pe_var (i := ix) (by rw [c.eN]; exact ixOf_get hix) (c.vis hv.1) d1 d2) (S.sE X sc fn i c) set_list (by
          intro v
          cases i <;> first | rfl | cases hsl)) (by cases e <;> rfl) (by cases e <;> rfl)) fun D σ H ⟨B, He, H0, ρ, fl, s, q, kk⟩ => ?_
        obtain ⟨⟨r, ρ1⟩, e1, q⟩ := Option.bind_eq_some_iff.mp q
        obtain ⟨ρ2, e2, e3⟩ := Option.map_eq_some_iff.mp q
        cases e3
        obtain ⟨d, f1, e2⟩ := Option.bind_eq_some_iff.mp e2
        obtain ⟨ds, f2, e2⟩ := Option.bind_eq_some_iff.mp e2
        obtain ⟨j, f3, e2⟩ := Option.bind_eq_some_iff.mp e2
        obtain ⟨l, f4, f5⟩ := Option.map_eq_some_iff.mp e2
        cases f5
        obtain ⟨rj, f3a, f3b⟩ := Option.bind_eq_some_iff.mp f3
        refine ⟨B, He, H0, ρ, r, ρ1, s, e1, fun v H0' H' s' b' w f' => ?_⟩
        obtain ⟨H0'', b'', s'', rd⟩ := FreshS.toV s' w f' f1
        obtain ⟨p, vs, a, hp, _, _, hr, _⟩ := s''.mut (ownAt_ok f2)
        refine ⟨_, a, B, He, H0'', ρ1, rj, s'', f3a, fun jv H03 H3 x3 w3 => ?_⟩
        obtain ⟨p2, vs2, a2, hp2, _, _, hr2, up⟩ := (s''.step x3).mut (ownAt_ok f2)
        rw [a] at a2
        cases a2
        have ln := hr2.length
        exact ⟨p, vs2, j, l, rfl, w3.1.toInt f3b, hp2, by rw [ln]; exact f4, kk σ H03 _ (up _ _ (hr2.set (Rp.mono x3.base _ _ rd) l)) (b'.trans (b''.trans x3.base))⟩
      · exact ⟨fun pins st σ H D I ⟨B, He, H0, ρ, fl, s, q, kk⟩ => by
          obtain ⟨⟨r, ρ1⟩, e1, e2⟩ := Option.bind_eq_some_iff.mp q
          cases e2⟩
    · exact ⟨fun pins st σ H D I ⟨B, He, H0, ρ, fl, s, q, kk⟩ => by
        obtain ⟨⟨r, ρ1⟩, e1, e2⟩ := Option.bind_eq_some_iff.mp q
        cases e2⟩
  cases tg with
  | Name x p =>
    clear sub
    cases hi : ixOf N x with
    | none =>
      exact never fun r ρ => by
        have e0 : stT T N sc fn (.Name x p) e = (match ixOf N x with
          | some i => if locB sc fn x = true then fun r ρ => if stoR r = true then some (ρ.set i (some r)) else none else fun _ _ => none
          | none => fun _ _ => none) := rfl
        rw [e0, hi]
    | some i =>
      by_cases hl : locB sc fn x = true
      · have e0 : stT T N sc fn (.Name x p) e = fun r ρ => if stoR r = true then some (ρ.set i (some r)) else none := by
          have e0 : stT T N sc fn (.Name x p) e = (match ixOf N x with
            | some i => if locB sc fn x = true then fun r ρ => if stoR r = true then some (ρ.set i (some r)) else none else fun _ _ => none
            | none => fun _ _ => none) := rfl
          rw [e0, hi]
          dsimp only
          rw [if_pos hl]
        rw [e0]
        obtain ⟨l1, l2⟩ := c.loc hl
        refine PS.imp (P.set i x p pos (by rw [c.eN]; exact c.nd) (by rw [c.eN]; exact ixOf_get hi) l1 l2) fun D σ H ⟨B, He, H0, ρ, fl, s, q, kk⟩ => ?_
        obtain ⟨⟨r, ρ1⟩, e1, q⟩ := Option.bind_eq_some_iff.mp q
        obtain ⟨ρ2, e2, e3⟩ := Option.map_eq_some_iff.mp q
        cases e3
        dsimp only at e2
        split at e2
        case isFalse => cases e2
        rename_i hst
        cases e2
        exact ⟨B, He, H0, ρ, r, ρ1, s, e1, fun v H0' H' s' b' w f' => kk _ H0' H' (s'.setF w f' hst i) b'⟩
      · exact never fun r ρ => by
          have e0 : stT T N sc fn (.Name x p) e = (match ixOf N x with
            | some i => if locB sc fn x = true then fun r ρ => if stoR r = true then some (ρ.set i (some r)) else none else fun _ _ => none
            | none => fun _ _ => none) := rfl
          rw [e0, hi]
          dsimp only
          rw [if_neg hl]
  | Tuple es kk0 p =>
    show PS X _ (tX X.K fun ρ => (evM T N sc fn 9 e ρ).bind fun s => ((if isTupE e = false then fun r ρ => (toV r).bind fun d => bindT N sc fn 8 (.Tuple es kk0 p) d ρ else fun _ _ => none : R → Env → Option Env) s.1 s.2).map .nx)
    split
    · rename_i ht
      refine PS.imp (ps_asg P.val (pr_tg c 8 (.Tuple es kk0 p)) (by cases e <;> rfl) (by cases e <;> first | rfl | cases ht)) fun D σ H ⟨B, He, H0, ρ, fl, s, q, kk⟩ => ?_
      obtain ⟨⟨r, ρ1⟩, e1, q⟩ := Option.bind_eq_some_iff.mp q
      obtain ⟨ρ2, e2, e3⟩ := Option.map_eq_some_iff.mp q
      cases e3
      obtain ⟨d, f1, e2⟩ := Option.bind_eq_some_iff.mp e2
      refine ⟨B, He, H0, ρ, r, ρ1, s, e1, fun v H0' H' s' b' w f' => ?_⟩
      obtain ⟨H0'', b'', s'', rd⟩ := FreshS.toV s' w f' f1
      exact ⟨B, He, H0'', ρ1, d, ρ2, s'', rd, e2, fun σ' s3 _ => kk σ' H0'' H' s3 (b'.trans b'')⟩
    · exact ⟨fun pins st σ H D I ⟨B, He, H0, ρ, fl, s, q, kk⟩ => by
        obtain ⟨⟨r, ρ1⟩, e1, e2⟩ := Option.bind_eq_some_iff.mp q
        cases e2⟩
  | Subscript a i p =>
    cases hk : subK (.Subscript a i p) with
    | none =>
      exact never fun r ρ => by
        have e0 : stT T N sc fn (.Subscript a i p) e = stS T N sc fn (subK (.Subscript a i p)) := rfl
        rw [e0, hk]; rfl
    | some xi => exact sub xi.1 xi.2 hk (by intro y p e; cases e) (by intro es q p e; cases e)
  | _ => exact never fun r ρ => rfl
end
end Kd

/-! Kd14: blocks and defs. -/
namespace Kd
open PySem PySem.Spec PyProof.Rows L2

section
variable {T : Tab} {N : List Str} {sc : Scope} {fn : Str → Bool} {k : Nat} {X : Cx}
theorem sndApp (c : Cxt T N sc fn k X) {x a : _} {e : Expr} {m : Str} {pos : Pos} {i : Nat} (h : appK e = some (x, m, a)) (hi : ixOf N x = some i) (hv : (visB sc x && okN x) = true) :
    PS X (.Expr e pos) (tX X.K (if m = ("append" : Str) then fun ρ => ((evE T N EF sc fn a (frz N ρ (esc 8 a))).bind toV).bind fun d => (ownAt (frz N ρ (esc 8 a)) i).bind fun ds => if ds.length < sizeLine then some (.nx ((frz N ρ (esc 8 a)).set i (some (.own (ds ++ [d]))))) else none
              else fun ρ => ((evE T N EF sc fn a ρ).bind toSeq).bind fun s => (ownAt ρ i).bind fun ds => if s.1 = false ∧ ds.length + s.2.length ≤ sizeLine then some (.nx (ρ.set i (some (.own (ds ++ s.2))))) else none)) := by
  have S := snd T N k EF
  obtain ⟨px, ap, cp, rfl, hm, hl, hp⟩ := appK_ok h
  rw [Bool.and_eq_true] at hv
  obtain ⟨d1, d2, d3⟩ := okN_all hv.2
  have h1 : starEach [a] X.env = (false, eval a X.env) :: starEach [] X.env := starEach_plain hp
  have pv := pe_var (X := X) (pos := px) (i := i) (by rw [c.eN]; exact ixOf_get hi) (c.vis hv.1) d1 d2
  have few : ((backTo cp (starEach [a] X.env)).all (fun x => !x.1) && (backToKw cp (keywordEach [] X.env)).all (fun x => x.1.isSome) && decide (([a] : List Expr).length + ([] : List Keyword).length + (if ([] : List Keyword).isEmpty then 0 else 1) < 30)) = true := by rw [h1]; rfl
  by_cases happ : m = ("append" : Str)
  · subst happ
    rw [if_pos rfl]
    refine PS.imp (t := tX X.K fun ρ => ((evE T N EF sc fn a ρ).bind toV).bind fun d => (ownAt ρ i).bind fun ds => if ds.length < sizeLine then some (.nx (ρ.set i (some (.own (ds ++ [d]))))) else none) ?_ fun D σ H h => tX_frz (f := fun ρ => ((evE T N EF sc fn a ρ).bind toV).bind fun d => (ownAt ρ i).bind fun ds => if ds.length < sizeLine then some (.nx (ρ.set i (some (.own (ds ++ [d]))))) else none) h
    refine PS.imp (ps_expr (pe_bm PySem.F.plainAttrs_list PySem.F.slot_list_append PySem.F.type_list_append mt_append pv (pa_cons (PE.toV (S.sE X sc fn a c)) pa_nil h1) (by rfl) few hl h1 (by rfl)) (by rfl)) fun D σ H ⟨B, He, H0, ρ, fl, s, q, kk⟩ => ?_
    obtain ⟨d, e1, q⟩ := Option.bind_eq_some_iff.mp q
    obtain ⟨ds, e2, q⟩ := Option.bind_eq_some_iff.mp q
    split at q
    case isFalse => cases q
    rename_i hlt
    cases q
    obtain ⟨p, vs, ap', hp', _, _, hr, _⟩ := s.mut (ownAt_ok e2)
    refine ⟨_, ap', .inl ⟨rfl, vs, SqL.of hp'⟩, B, He, H0, ρ, d, s, e1, fun v H0' H' x w => ?_⟩
    obtain ⟨p2, vs2, a2, hp2, _, _, hr2, up⟩ := (s.step x).mut (ownAt_ok e2)
    rw [ap'] at a2
    cases a2
    exact ⟨p, vs2, v, rfl, rfl, hp2, by rw [hr2.length]; exact hlt, kk σ H0' _ (up _ _ (hr2.snoc w)) x.base⟩
  · have hext : m = ("extend" : Str) := hm.resolve_left happ
    subst hext
    rw [if_neg happ]
    refine PS.imp (ps_expr (pe_bm PySem.F.plainAttrs_list PySem.F.slot_list_extend PySem.F.type_list_extend mt_extend pv (pa_cons (S.sE X sc fn a c) pa_nil h1) (by rfl) few hl h1 (by rfl)) (by rfl)) fun D σ H ⟨B, He, H0, ρ, fl, s, q, kk⟩ => ?_
    obtain ⟨⟨t, es⟩, e1, q⟩ := Option.bind_eq_some_iff.mp q
    obtain ⟨r1, e1a, e1b⟩ := Option.bind_eq_some_iff.mp e1
    obtain ⟨ds, e2, q⟩ := Option.bind_eq_some_iff.mp q
    split at q
    case isFalse => cases q
    rename_i hlt
    obtain ⟨ht, hlt⟩ := hlt
    cases q
    dsimp only at ht hlt
    subst ht
    obtain ⟨p, vs, ap', hp', _, _, hr, _⟩ := s.mut (ownAt_ok e2)
    refine ⟨_, ap', .inl ⟨rfl, vs, SqL.of hp'⟩, B, He, H0, ρ, r1, s, e1a, fun v H0' H' x w => ?_⟩
    obtain ⟨p2, vs2, a2, hp2, _, _, hr2, up⟩ := (s.step x).mut (ownAt_ok e2)
    rw [ap'] at a2
    cases a2
    obtain ⟨p3, vs3, rfl, hp3, hr3⟩ := w.1.seq x.sub e1b
    exact ⟨p, p3, vs2, vs3, rfl, rfl, hp2, hp3, by rw [hr2.length, hr3.length]; exact hlt, kk σ H0' _ (up _ _ (hr2.append hr3)) x.base⟩
theorem sndRet (c : Cxt T N sc fn k X) (e : Expr) (pos : Pos) : PS X (.Return (some e) pos) (tX X.K fun ρ => match ((nameOf e).bind fun x => if (visB sc x && okN x) = true then (ixOf N x).bind fun i => (getE ρ i).bind fun r => if isOwn r = true then some r else none else none) with
        | some r => some (.ret r)
        | none => (evM T N sc fn 9 e (frz N ρ (esc 8 e))).bind fun s => if stoR s.1 = true then some (.ret s.1) else none) := by
  refine ⟨fun pins st σ H D I ⟨B, He, H0, ρ, fl, s, q, kk⟩ => ?_⟩
  dsimp only at q
  split at q
  · rename_i r hr
    cases q
    obtain ⟨x, e1, hr1⟩ := Option.bind_eq_some_iff.mp hr
    clear hr
    obtain ⟨p, hp⟩ := nameOf_ok e1
    subst hp
    split at hr1
    case isFalse => cases hr1
    rename_i hv
    rw [Bool.and_eq_true] at hv
    obtain ⟨d1, d2, d3⟩ := okN_all hv.2
    obtain ⟨i, e2, hr2⟩ := Option.bind_eq_some_iff.mp hr1
    obtain ⟨r', e3, hr3⟩ := Option.bind_eq_some_iff.mp hr2
    split at hr3
    case isFalse => cases hr3
    rename_i ho
    cases hr3
    refine (ps_ret (pe_var (i := i) (by rw [c.eN]; exact ixOf_get e2) (c.vis hv.1) d1 d2)).run pins st σ H D I ?_
    obtain ⟨o, e4, e5⟩ := Option.bind_eq_some_iff.mp e3
    have e5' : o = some r := e5
    subst e5'
    obtain ⟨v, a, b⟩ := s.slot i r e4
    exact ⟨v, a, kk v H0 H s.ext (Same.refl _) ⟨b.1, b.2.1⟩⟩
  · obtain ⟨⟨r, ρ1⟩, e1, q⟩ := Option.bind_eq_some_iff.mp q
    split at q
    case isFalse => cases q
    rename_i hst
    cases q
    obtain ⟨H0', b, s'⟩ := s.frz N (esc 8 e)
    refine (ps_ret (sndM c 9 e).val).run pins st σ H D I ⟨B, He, H0', _, r, ρ1, s', e1, fun v H0'' H' s2 b2 w f => ?_⟩
    refine kk v H0'' H' s2.ext (b.trans b2) ⟨w, fun o => ?_⟩
    obtain ⟨p, e, h1, h2, _⟩ := f o
    exact ⟨p, e, h1, h2⟩
mutual
theorem sndS (c : Cxt T N sc fn k X) : ∀ (n : Nat) (s : Stmt), PS X s (tX X.K (exS T N sc fn n s))
  | 0, s => px_never
  | n + 1, s => by
    have S := snd T N k EF
    cases s with
    | Assign tgs e pos =>
      match tgs with
      | [] => exact px_never
      | [tg] => exact sndAsg c tg e pos
      | _ :: _ :: _ => exact px_never
    | Expr e pos =>
      have doc : ∀ z j p, e = .Constant (.str z) j p → PS X (.Expr e pos) (tX X.K fun ρ => some (.nx ρ)) := by
        intro z j p he
        subst he
        exact PS.imp ps_doc fun D σ H ⟨B, He, H0, ρ, fl, s, q, kk⟩ => by cases q; exact kk σ H0 H s (Same.refl _)
      have gen : PS X (.Expr e pos) (tX X.K (match appK e with
        | some (x, m, a) => match ixOf N x with
          | some i => if (visB sc x && okN x) = true then
              (if m = ("append" : Str) then fun ρ => ((evE T N EF sc fn a (frz N ρ (esc 8 a))).bind toV).bind fun d => (ownAt (frz N ρ (esc 8 a)) i).bind fun ds => if ds.length < sizeLine then some (.nx ((frz N ρ (esc 8 a)).set i (some (.own (ds ++ [d]))))) else none
              else fun ρ => ((evE T N EF sc fn a ρ).bind toSeq).bind fun s => (ownAt ρ i).bind fun ds => if s.1 = false ∧ ds.length + s.2.length ≤ sizeLine then some (.nx (ρ.set i (some (.own (ds ++ s.2))))) else none)
            else fun _ => none
          | none => fun _ => none
        | none => fun _ => none)) := by
        split
        · rename_i x m a ha
          cases hi : ixOf N x with
          | none => exact px_never
          | some i =>
            dsimp only
            by_cases hv : (visB sc x && okN x) = true
            · rw [if_pos hv]
              exact sndApp c ha hi hv
            · rw [if_neg hv]
              exact px_never
        · exact px_never
      cases e with
      | Constant v j p =>
        cases v with
        | str z => exact doc z j p rfl
        | _ => exact gen
      | _ => exact gen
    | AugAssign tg op e pos =>
      show PS X _ (tX X.K (match nameOf tg, addK op with
      | some x, some g => match ixOf N x with
        | some i => if (locB sc fn x && visB sc x && okN x) = true then fun ρ => ((getE ρ i).bind toInt).bind fun a => ((evE T N EF sc fn e ρ).bind toInt).bind fun b => some (.nx (ρ.set i (some (Kd.I (g a b))))) else fun _ => none
        | none => fun _ => none
      | _, _ => fun _ => none))
      split
      · rename_i x g hx hg
        obtain ⟨p, rfl⟩ := nameOf_ok hx
        cases hi : ixOf N x with
        | none => exact px_never
        | some i =>
          dsimp only
          by_cases hv : (locB sc fn x && visB sc x && okN x) = true
          · rw [if_pos hv]
            rw [Bool.and_eq_true, Bool.and_eq_true] at hv
            obtain ⟨l1, l2⟩ := c.loc hv.1.1
            have ip : PIp X op (ipI g) := by
              cases op <;> first | (cases hg; exact ip_add) | (cases hg; exact ip_sub) | cases hg
            refine PS.imp (ps_aug (by rw [c.eN]; exact c.nd) (by rw [c.eN]; exact ixOf_get hi) l1 (S.sE X sc fn e c) ip l2) fun D σ H ⟨B, He, H0, ρ, fl, s, q, kk⟩ => ?_
            obtain ⟨a, e1, q⟩ := Option.bind_eq_some_iff.mp q
            obtain ⟨b, e2, q⟩ := Option.bind_eq_some_iff.mp q
            cases q
            obtain ⟨r0, e1a, e1b⟩ := Option.bind_eq_some_iff.mp e1
            obtain ⟨o, e1c, e1d⟩ := Option.bind_eq_some_iff.mp e1a
            have e1d' : o = some r0 := e1d
            subst e1d'
            obtain ⟨rb, e2a, e2b⟩ := Option.bind_eq_some_iff.mp e2
            obtain ⟨v, a', b'⟩ := s.slot i r0 e1c
            refine ⟨v, a', B, He, H0, ρ, rb, s, e2a, fun w H0' H' x' w' => ⟨a, b, b'.1.toInt e1b, w'.1.toInt e2b, ?_⟩⟩
            exact kk _ H0' H' ((s.step x').setV (.int _) i) x'.base
          · rw [if_neg hv]
            exact px_never
      · exact px_never
    | If t a b pos =>
      refine PS.imp (ps_if (S.sT X sc fn t c) (sndB c n a) (sndB c n b)) fun D σ H ⟨B, He, H0, ρ, fl, s, q, kk⟩ => ?_
      obtain ⟨z, e1, q⟩ := Option.bind_eq_some_iff.mp q
      refine ⟨B, He, H0, ρ, z, s, e1, fun H0' H' x => ?_⟩
      cases z with
      | true => exact iteT ⟨B, He, H0', ρ, fl, s.step x, q, kk.mono x.base⟩
      | false => exact iteF ⟨B, He, H0', ρ, fl, s.step x, q, kk.mono x.base⟩
    | For tg it body els pos =>
      match els with
      | _ :: _ => exact px_never
      | [] =>
        show PS X _ (tX X.K (if isSetE it = false then fun ρ => (evI T N EF sc fn tg it (frz N ρ (walkN it))).bind fun s => if s.1 = true then forL (fun d ρ => (bindT N sc fn 8 tg d ρ).bind fun ρ' => exB T N sc fn n body ρ') s.2 (frz N ρ (walkN it)) else none else fun _ => none))
        split
        · rename_i hs
          refine PS.imp (px_for c.pass c.calm (S.sI X sc fn tg it c) (pr_tg c 8 tg) (sndB c n body) (foldS hs)) fun D σ H h => ?_
          exact tX_frz (f := fun ρ => (evI T N EF sc fn tg it ρ).bind fun s => if s.1 = true then forL (fun d ρ => (bindT N sc fn 8 tg d ρ).bind fun ρ' => exB T N sc fn n body ρ') s.2 ρ else none) h
        · exact px_never
    | While t body els pos =>
      match els with
      | _ :: _ => exact px_never
      | [] => exact px_while WF c.pass (S.sT X sc fn t c) (sndB c n body)
    | Return o pos =>
      match o with
      | none => exact PS.imp ps_retN fun D σ H ⟨B, He, H0, ρ, fl, s, q, kk⟩ => by cases q; exact kk .non H0 H s.ext (Same.refl _) ⟨.non, fun o => by cases o⟩
      | some e => exact sndRet c e pos
    | Pass pos => exact PS.imp ps_pass fun D σ H ⟨B, He, H0, ρ, fl, s, q, kk⟩ => by cases q; exact kk σ H0 H s (Same.refl _)
    | Break pos => exact PS.imp ps_break fun D σ H ⟨B, He, H0, ρ, fl, s, q, kk⟩ => by cases q; exact kk σ H0 H s (Same.refl _)
    | Continue pos => exact PS.imp ps_continue fun D σ H ⟨B, He, H0, ρ, fl, s, q, kk⟩ => by cases q; exact kk σ H0 H s (Same.refl _)
    | _ => exact px_never
theorem sndB (c : Cxt T N sc fn k X) : ∀ (n : Nat) (ss : List Stmt), PSs X ss (tX X.K (exB T N sc fn n ss))
  | 0, s => pxs_never
  | n + 1, ss => by
    match ss with
    | [] => exact PSs.imp pss_nil fun D σ H ⟨B, He, H0, ρ, fl, s, q, kk⟩ => by cases q; exact kk σ H0 H s (Same.refl _)
    | s :: r => exact pxs_cons (sndS c n s) (sndB c n r)
end
end

/-! ### defs -/
/-- the depth of statements that is looked at -/
abbrev SF : Nat := 60
/-- what a def gives: its names, its scope, its body, the tables of what it calls -/
def runD (T : Tab) (N : List Str) (sc : Scope) (body : List Stmt) (rs : List R) : Option R :=
  (exB T N sc (fun _ => true) SF body (rs.map some ++ List.replicate (N.length - rs.length) none)).bind fun f => match f with
  | .nx _ => some Non
  | .ret r => some r
  | _ => none
theorem ks_start {K : PySem.W.Frag} {B H : Hp} {N : List Str} {vs : List V} {rs : List R} (sub : Same B H) (w : AllV K B H vs rs) (ho : rs.all (fun r => !isOwn r) = true) : Ks K B H B H (L2.start N vs) (rs.map some ++ List.replicate (N.length - rs.length) none) := by
  have hl := AllV.length w
  have get : ∀ (i : Nat) (r : R), (rs.map some ++ List.replicate (N.length - rs.length) none)[i]? = some (some r) → ∃ v, (L2.start N vs)[i]? = some (some v) ∧ View K B H v r ∧ isOwn r = false := by
    intro i r e
    by_cases hi : i < rs.length
    · rw [List.getElem?_append_left (by simpa using hi), List.getElem?_map] at e
      obtain ⟨r', e1, e2⟩ := Option.map_eq_some_iff.mp e
      cases e2
      obtain ⟨v, a, b⟩ : ∃ v, vs[i]? = some v ∧ View K B H v r := by
        clear e
        induction w generalizing i with
        | nil => simp at e1
        | cons p t ih =>
          cases i with
          | zero => simp at e1; subst e1; exact ⟨_, rfl, p⟩
          | succ i =>
            simp only [List.all_cons, Bool.and_eq_true] at ho
            obtain ⟨v, a, b⟩ := ih ho.2 (by simpa using hl) i (by simpa using hi) (by simpa using e1)
            exact ⟨v, by simpa using a, b⟩
      refine ⟨v, ?_, b, ?_⟩
      · unfold L2.start
        rw [List.getElem?_append_left (by simp; omega), List.getElem?_map, a]
        rfl
      · have := List.all_eq_true.mp ho r (List.mem_of_getElem? e1)
        simpa using this
    · rw [List.getElem?_append_right (by simp; omega)] at e
      rw [List.getElem?_replicate] at e
      split at e <;> cases e
  refine ⟨Ext.refl sub, by simp [L2.start, hl], fun i r e => ?_, fun i j r r' p e1 e2 o1 o2 h1 h2 => ?_⟩
  · obtain ⟨v, a, b, o⟩ := get i r e
    exact ⟨v, a, b, (fun h => by rw [o] at h; cases h), fun _ => b⟩
  · obtain ⟨v, a, b, o⟩ := get i r e1
    rw [o] at o1
    cases o1
/-- a def keeps its promise: one call deeper than what it calls -/
theorem fn_ok {P : Program} {w : World} {K : PySem.W.Frag} {mg : Str → Option Value} {base : Heap} {x qual : Str} {st : Stmt} {f : Addr} {fd : FuncData} {N ps : List Str} {k : Nat} {T : Tab} (F : Fun K x qual st f fd) (S : FnScope N ps (defScope st))
    (free : ∀ x ∈ T.free, mg x = none)
    (fns : ∀ x m g, T.fns x = some (m, g) → ∃ f fd ps, ps.length = m ∧ FnOk P w K mg base CX0 k f fd ps (spD K m g) ∧ mg x = some (.ref f) ∧ PySem.W.keepIn K (.ref f) = true ∧ Binds K fd ps []) :
    FnOk P w K mg base CX0 (k + 1) f fd ps (spD K ps.length fun rs => if rs.all (fun r => !isOwn r) = true then runD T N (defScope st) (defBody st) rs else none) := by
  refine F.ok S (fun vs H Q E h => h.1) fun cdv A outer s H vs Q E hr h => ?_
  obtain ⟨hl, B, rs, r, sub, wv, q, kk⟩ := h
  dsimp only at q
  split at q
  case isFalse => cases q
  rename_i ho
  obtain ⟨fl, e1, e2⟩ := Option.bind_eq_some_iff.mp q
  have c : Cxt T N (defScope st) (fun _ => true) k (cxOf CX0 P w K mg base N qual (defScope st) f cdv A outer s H E).nox :=
    ⟨rfl, S.nd, rfl, rfl, fun x h => by
      simp only [locB, Bool.or_eq_true, Bool.and_eq_true, decide_eq_true_eq] at h
      rcases h with h | h
      · exact ⟨.inl h, .inl rfl⟩
      · exact ⟨.inr h.1, .inl rfl⟩, rfl, hr, free, fns⟩
  refine ⟨_, sndB c SF (defBody st), B, H, B, _, fl, ks_start sub wv ho, e1, ?_⟩
  cases fl with
  | nx ρ' => cases e2; exact fun σ' H0' H' s' b' => kk .non H0' H' s'.ext ⟨.non, fun o => by cases o⟩
  | ret r' => cases e2; exact fun v H0' H' x' b' w' => kk v H0' H' x' w'
  | bk ρ' => cases e2
  | ct ρ' => cases e2
end Kd

/-! Kd15: a module's defs, level by level; the law's end. -/
namespace Kd
open PySem PySem.Spec PyProof.Rows L2

/-- a def: where it stands, its names, its parameters -/
structure DD where
  st : Stmt
  name : Str
  N : List Str
  ps : List Str
def gf (T : Tab) (d : DD) (rs : List R) : Option R := if rs.all (fun r => !isOwn r) = true then runD T d.N (defScope d.st) (defBody d.st) rs else none
/-- what calls may reach: n defs deep -/
def tab (fr : List Str) (defs : List DD) : Nat → Tab
  | 0 => ⟨fun _ => none, fr⟩
  | n + 1 => ⟨fun x => (defs.find? fun d => decide (d.name = x)).map fun d => (d.ps.length, gf (tab fr defs n) d), fr⟩
theorem tab_free (fr : List Str) (defs : List DD) : ∀ n, (tab fr defs n).free = fr
  | 0 => rfl
  | _ + 1 => rfl
section
variable {P : Program} {w : World} {K : PySem.W.Frag} {mg : Str → Option Value} {base : Heap}
theorem fnD_ok {x qual : Str} {params : Arguments} {body : List Stmt} {scope : Scope} {f : Addr} {fd : FuncData} {N ps : List Str} {k : Nat} {T : Tab} (F : FunD K x qual params body scope [] [] f fd) (S : FnScope N ps scope)
    (free : ∀ x ∈ T.free, mg x = none)
    (fns : ∀ x m g, T.fns x = some (m, g) → ∃ f fd ps, ps.length = m ∧ FnOk P w K mg base CX0 k f fd ps (spD K m g) ∧ mg x = some (.ref f) ∧ PySem.W.keepIn K (.ref f) = true ∧ Binds K fd ps []) :
    FnOk P w K mg base CX0 (k + 1) f fd ps (spD K ps.length fun rs => if rs.all (fun r => !isOwn r) = true then runD T N scope body rs else none) := by
  refine F.ok S (fun vs H Q E h => h.1) fun cdv A outer s H vs Q E hr h => ?_
  obtain ⟨hl, B, rs, r, sub, wv, q, kk⟩ := h
  dsimp only at q
  split at q
  case isFalse => cases q
  rename_i ho
  obtain ⟨fl, e1, e2⟩ := Option.bind_eq_some_iff.mp q
  have c : Cxt T N scope (fun _ => true) k (cxOf CX0 P w K mg base N qual scope f cdv A outer s H E).nox :=
    ⟨rfl, S.nd, rfl, rfl, fun x h => by
      simp only [locB, Bool.or_eq_true, Bool.and_eq_true, decide_eq_true_eq] at h
      rcases h with h | h
      · exact ⟨.inl h, .inl rfl⟩
      · exact ⟨.inr h.1, .inl rfl⟩, rfl, hr, free, fns⟩
  refine ⟨_, PSs.nox (sndB c SF body), B, H, B, _, fl, ks_start sub wv ho, e1, ?_⟩
  cases fl with
  | nx ρ' => cases e2; exact fun σ' H0' H' s' b' => kk .non H0' H' s'.ext ⟨.non, fun o => by cases o⟩
  | ret r' => cases e2; exact fun v H0' H' x' b' w' => kk v H0' H' x' w'
  | bk ρ' => cases e2
  | ct ρ' => cases e2
/-- what is to be known of a def -/
structure DOk (K : PySem.W.Frag) (mg : Str → Option Value) (d : DD) : Prop where
  sc : FnScope d.N d.ps (defScope d.st)
  fn : ∃ f fd, FunD K d.name d.name (defArgs d.st) (defBody d.st) (defScope d.st) [] [] f fd ∧ mg d.name = some (.ref f)
  bind : ∀ (kV doc pm : Value) (an : Option Addr) (cdv ct : Value) (us : List Value), us.length = d.ps.length → bindArgs (PySem.W.fnOf d.name d.name (defArgs d.st) (defBody d.st) (defScope d.st) .none kV doc pm an cdv ct) ⟨us, []⟩ = pure (d.ps.zip us)
theorem tab_ok {fr : List Str} {defs : List DD} (free : ∀ x ∈ fr, mg x = none) (h : ∀ d ∈ defs, DOk K mg d) : ∀ (n : Nat) (x : Str) (m : Nat) (g : List R → Option R), (tab fr defs n).fns x = some (m, g) →
    ∃ f fd ps, ps.length = m ∧ FnOk P w K mg base CX0 n f fd ps (spD K m g) ∧ mg x = some (.ref f) ∧ PySem.W.keepIn K (.ref f) = true ∧ Binds K fd ps []
  | 0, x, m, g, e => by cases e
  | n + 1, x, m, g, e => by
    have e1 : ((defs.find? fun d => decide (d.name = x)).map fun d => (d.ps.length, gf (tab fr defs n) d)) = some (m, g) := e
    obtain ⟨d, e2, e3⟩ := Option.map_eq_some_iff.mp e1
    cases e3
    have hx : d.name = x := by simpa using List.find?_some e2
    have hd := h d (List.mem_of_find?_eq_some e2)
    obtain ⟨f, fd, F, hf⟩ := hd.fn
    subst hx
    exact ⟨f, fd, d.ps, rfl, fnD_ok F hd.sc (by rw [tab_free]; exact free) (tab_ok free h n), hf, F.kp, F.bindsN hd.bind⟩
/-- the law's def -/
theorem law_ok {fr : List Str} {defs : List DD} {d : DD} {n : Nat} {p : Str} (free : ∀ x ∈ fr, mg x = none) (h : ∀ d ∈ defs, DOk K mg d) (hd : d ∈ defs) (hp : d.ps = [p])
    {f : Addr} (hf : mg d.name = some (.ref f)) (hl : ∀ ns : List Int, ns.length ≤ 63 → gf (tab fr defs n) d [.scr ns] = some (Bl true)) :
    ∃ (fd : FuncData) (sp : Sp), (∀ (s : Shared) (v : Value), BindsTo s fd ⟨[v], []⟩ [(p, v)]) ∧
      (∀ (H : Hp) (a : Addr) (ns : List Int), ns.length ≤ 63 → SqL K H a (ns.map V.int) → sp [.ref a] H (fun v _ => v = .bl true) fun _ _ _ => False) ∧ ∀ base : Heap, FnOk P w K mg base CX0 (n + 1) f fd [p] sp := by
  have hk := h d hd
  obtain ⟨f', fd, F, hf'⟩ := hk.fn
  cases hf.symm.trans hf'
  refine ⟨fd, spD K 1 (gf (tab fr defs n) d), fun s v => ?_, fun H a ns hn hS => ⟨rfl, H, [.scr ns], Bl true, Same.refl _, .cons ⟨a, rfl, hS⟩ .nil, hl ns hn, fun v B' H' _ r => ?_⟩, ?_⟩
  · have := FunD.bindsA F hk.bind s [v] (by rw [hp]; rfl)
    rw [hp] at this
    exact this
  · have r1 : Rp B' v (.bool true) := r.1
    cases r1
    rfl
  · intro base
    have := fnD_ok (P := P) (w := w) (base := base) F hk.sc (by rw [tab_free]; exact free) (tab_ok free h n)
    rw [hp] at this
    exact this
end
end Kd

/-! Kd16: the words of a def's shallow form. -/
namespace Kd
open PySem PySem.Spec PyProof.Rows L2

abbrev EE := Env → Option R
abbrev EB := Env → Option Bool
abbrev EA := Env → Option (List R)
abbrev EI' := Env → Option (Bool × List D)
abbrev ES := Env → Option Fl
abbrev EM := Env → Option (R × Env)
def vr (i : Nat) : EE := fun ρ => (getE ρ i).map readR
def kI (i : Int) : EE := fun _ => some (I i)
def kBo (b : Bool) : EE := fun _ => some (Bl b)
def kN : EE := fun _ => some Non
def kS (s : Str) : EE := fun _ => some (.v (.str s))
def ntE (A : EE) : EE := fun ρ => (A ρ).bind fun r => (truR r).map fun b => Bl (!b)
def ngE (A : EE) : EE := fun ρ => (A ρ).bind negR
def ifE (c : EB) (A B : EE) : EE := fun ρ => (c ρ).bind fun t => if t = true then A ρ else B ρ
def tupE (A : EA) : EE := fun ρ => (A ρ).bind fun rs => (allVs rs).bind fun ds => if ds.length ≤ sizeLine then some (.v (.tuple ds)) else none
def lstE (A : EA) : EE := fun ρ => (A ρ).bind fun rs => (allVs rs).bind fun ds => if ds.length ≤ sizeLine then some (.own ds) else none
def ag0 : EA := fun _ => some []
def agE (A : EE) (B : EA) : EA := fun ρ => (A ρ).bind fun x => (B ρ).bind fun rs => some (argR x :: rs)
def oN : Env → Option (Option Int) := fun _ => some none
def oS (A : EE) : Env → Option (Option Int) := fun ρ => ((A ρ).bind toInt).map some
def cutE (A : EE) (l h : Env → Option (Option Int)) : EE := fun ρ => (A ρ).bind fun r => (l ρ).bind fun l => (h ρ).bind fun h => slR r l h
def rvE (A : EE) : EE := fun ρ => (A ρ).bind revR
def caE (A : EA) (g : List R → Option R) : EE := fun ρ => (A ρ).bind g
def r1E (A : EE) : Env → Option (Int × Int) := fun ρ => ((A ρ).bind toInt).bind fun j => if RgOk 0 j then some (0, j) else none
def r2E (A B : EE) : Env → Option (Int × Int) := fun ρ => ((A ρ).bind toInt).bind fun i => ((B ρ).bind toInt).bind fun j => if RgOk i j then some (i, j) else none
def rgL (r : Env → Option (Int × Int)) : EE := fun ρ => (r ρ).bind fun s => some (.own (rngD s.1 (s.2 - s.1).toNat))
def rgT (r : Env → Option (Int × Int)) : EE := fun ρ => (r ρ).bind fun s => some (.v (.tuple (rngD s.1 (s.2 - s.1).toNat)))
def isE (A : EE) (s : String) : EE := fun ρ => (A ρ).bind (isiR s)
def lcE (It : EI') (vs : List Nat) (b : D → Env → Option Env) (F : EB) (E : EE) : EE := fun ρ => (It ρ).bind fun s => (compL (turnC b F (fun ρ => (E ρ).bind toV) (wipeE ρ vs)) s.2).map .own
def vAnd (A B : EE) : EE := fun ρ => (A ρ).bind fun c => (toBool c).bind fun c => if c = true then B ρ else some (Bl false)
def vOr (A B : EE) : EE := fun ρ => (A ρ).bind fun c => (toBool c).bind fun c => if c = true then some (Bl true) else B ρ
/-! tests -/
def tE (A : EE) : EB := fun ρ => (A ρ).bind truR
def tNot (A : EB) : EB := fun ρ => (A ρ).map fun b => !b
def tAnd (A B : EB) : EB := fun ρ => (A ρ).bind fun c => if c = true then B ρ else some false
def tOr (A B : EB) : EB := fun ρ => (A ρ).bind fun c => if c = true then some true else B ρ
def fTrue : EB := fun _ => some true
/-! walks -/
def iRng (A : EA) : EI' := fun ρ => (A ρ).bind rngI
def iEnum (A : EE) : EI' := fun ρ => (A ρ).bind enumI
def iRev (A : EE) : EI' := fun ρ => (A ρ).bind revI
def iSeq (A : EE) : EI' := fun ρ => (A ρ).bind seqI
/-! targets -/
def b1 (i : Nat) : D → Env → Option Env := fun d ρ => some (ρ.set i (some (.v d)))
def bT (k : Nat) (bs : List D → Env → Option Env) : D → Env → Option Env := fun d ρ => match d with
  | .tuple ds => if ds.length = k then bs ds ρ else none
  | _ => none
def bN : List D → Env → Option Env := fun ds ρ => match ds with
  | [] => some ρ
  | _ => none
def bC (b : D → Env → Option Env) (bs : List D → Env → Option Env) : List D → Env → Option Env := fun ds ρ => match ds with
  | d :: ds => (b d ρ).bind (bs ds)
  | _ => none
/-! what changes -/
def fzI (ρ : Env) : List Nat → Env
  | [] => ρ
  | i :: r => fzI (frz1 ρ i) r
def mP (A : EE) : EM := fun ρ => (A ρ).map fun r => (r, ρ)
def mPop (i : Nat) : EM := fun ρ => (ownAt ρ i).bind fun ds => (popD ds).map fun s => (.v s.1, ρ.set i (some (.own s.2)))
def mPopAt (i : Nat) (A : EE) : EM := fun ρ => (ownAt ρ i).bind fun ds => ((A ρ).bind toInt).bind fun j => (popAtD ds j).map fun s => (.v s.1, ρ.set i (some (.own s.2)))
def mComp (i : Nat) (It : EI') (vs : List Nat) (b : D → Env → Option Env) (A : EE) : EM := fun ρ => (It ρ).bind fun s => if s.1 = true then (ownAt ρ i).bind fun ds => (compP i vs b A ρ s.2 ds).map fun t => (.own t.1, ρ.set i (some (.own t.2))) else none
def mCall (M : EM) (g : List R → Option R) : EM := fun ρ => (M ρ).bind fun s => (g [argR s.1]).map fun r => (r, s.2)
def mCut (M : EM) (l h : Env → Option (Option Int)) : EM := fun ρ => (M ρ).bind fun s => (l s.2).bind fun l => (h s.2).bind fun h => (slR s.1 l h).map fun r => (r, s.2)
/-! statements -/
def st1 (i : Nat) : R → Env → Option Env := fun r ρ => if stoR r = true then some (ρ.set i (some r)) else none
def stB (b : D → Env → Option Env) : R → Env → Option Env := fun r ρ => (toV r).bind fun d => b d ρ
def stI (ix : Nat) (A : EE) : R → Env → Option Env := fun r ρ => (toV r).bind fun d => (ownAt ρ ix).bind fun ds => ((A ρ).bind toInt).bind fun j => (ixN ds.length j).map fun l => ρ.set ix (some (.own (ds.set l d)))
def sAsg (fz : List Nat) (M : EM) (st : R → Env → Option Env) : ES := fun ρ => (M (fzI ρ fz)).bind fun s => (st s.1 s.2).map .nx
def sDoc : ES := fun ρ => some (.nx ρ)
def sBrk : ES := fun ρ => some (.bk ρ)
def sCnt : ES := fun ρ => some (.ct ρ)
def sApp (i : Nat) (fz : List Nat) (A : EE) : ES := fun ρ => ((A (fzI ρ fz)).bind toV).bind fun d => (ownAt (fzI ρ fz) i).bind fun ds => if ds.length < sizeLine then some (.nx ((fzI ρ fz).set i (some (.own (ds ++ [d]))))) else none
def sExt (i : Nat) (A : EE) : ES := fun ρ => ((A ρ).bind toSeq).bind fun s => (ownAt ρ i).bind fun ds => if s.1 = false ∧ ds.length + s.2.length ≤ sizeLine then some (.nx (ρ.set i (some (.own (ds ++ s.2))))) else none
def sAug (i : Nat) (g : Int → Int → Int) (A : EE) : ES := fun ρ => ((getE ρ i).bind toInt).bind fun a => ((A ρ).bind toInt).bind fun b => some (.nx (ρ.set i (some (I (g a b)))))
def sIf (c : EB) (A B : ES) : ES := fun ρ => (c ρ).bind fun t => if t = true then A ρ else B ρ
def sFor (fz : List Nat) (It : EI') (b : D → Env → Option Env) (B : ES) : ES := fun ρ => (It (fzI ρ fz)).bind fun s => if s.1 = true then forL (fun d ρ => (b d ρ).bind fun ρ' => B ρ') s.2 (fzI ρ fz) else none
def sWhl (c : EB) (B : ES) : ES := whileL c B WF
def sRet0 : ES := fun _ => some (.ret Non)
def sRet (fz : List Nat) (M : EM) : ES := fun ρ => (M (fzI ρ fz)).bind fun s => if stoR s.1 = true then some (.ret s.1) else none
def sRetN (i : Nat) : ES := fun ρ => match (getE ρ i).bind fun r => if isOwn r = true then some r else none with
  | some r => some (.ret r)
  | none => sRet [i] (mP (vr i)) ρ
def bE : ES := fun ρ => some (.nx ρ)
def bS (S B : ES) : ES := fun ρ => (S ρ).bind fun f => match f with
  | .nx ρ' => B ρ'
  | f => some f
/-- the end of a def -/
def fin (o : Option Fl) : Option R := o.bind fun f => match f with
  | .nx _ => some Non
  | .ret r => some r
  | _ => none
theorem gf_eq {T : Tab} {d : DD} {S : ES} (h : exB T d.N (defScope d.st) (fun _ => true) SF (defBody d.st) = S) (rs : List R) (ho : rs.all (fun r => !isOwn r) = true) : gf T d rs = fin (S (rs.map some ++ List.replicate (d.N.length - rs.length) none)) := by
  unfold gf runD
  rw [if_pos ho, h]
  rfl
end Kd

/-! Kd17: shallow forms are stepped by simp. -/
namespace Kd
open PySem PySem.Spec PyProof.Rows L2

/-! ### steps -/
def kB (o : Option Fl) (B : ES) : Option Fl := o.bind fun f => match f with
  | .nx ρ' => B ρ'
  | f => some f
@[simp] theorem bS_ap (S B : ES) (ρ : Env) : bS S B ρ = kB (S ρ) B := rfl
@[simp] theorem kB_nx (ρ : Env) (B : ES) : kB (some (.nx ρ)) B = B ρ := rfl
@[simp] theorem kB_ret (r : R) (B : ES) : kB (some (.ret r)) B = some (.ret r) := rfl
@[simp] theorem kB_bk (ρ : Env) (B : ES) : kB (some (.bk ρ)) B = some (.bk ρ) := rfl
@[simp] theorem kB_ct (ρ : Env) (B : ES) : kB (some (.ct ρ)) B = some (.ct ρ) := rfl
@[simp] theorem bE_ap (ρ : Env) : bE ρ = some (.nx ρ) := rfl
def kIf {α : Type} (o : Option Bool) (A B : Env → Option α) (ρ : Env) : Option α := o.bind fun t => if t = true then A ρ else B ρ
@[simp] theorem sIf_ap (c : EB) (A B : ES) (ρ : Env) : sIf c A B ρ = kIf (c ρ) A B ρ := rfl
@[simp] theorem ifE_ap (c : EB) (A B : EE) (ρ : Env) : ifE c A B ρ = kIf (c ρ) A B ρ := rfl
@[simp] theorem kIf_t {α : Type} (A B : Env → Option α) (ρ : Env) : kIf (some true) A B ρ = A ρ := rfl
@[simp] theorem kIf_f {α : Type} (A B : Env → Option α) (ρ : Env) : kIf (some false) A B ρ = B ρ := rfl
def kAs (o : Option (R × Env)) (st : R → Env → Option Env) : Option Fl := o.bind fun s => (st s.1 s.2).map .nx
@[simp] theorem sAsg_ap (fz : List Nat) (M : EM) (st : R → Env → Option Env) (ρ : Env) : sAsg fz M st ρ = kAs (M (fzI ρ fz)) st := rfl
@[simp] theorem kAs_some (r : R) (ρ : Env) (st : R → Env → Option Env) : kAs (some (r, ρ)) st = (st r ρ).map .nx := rfl
@[simp] theorem fzI_nil (ρ : Env) : fzI ρ [] = ρ := rfl
@[simp] theorem fzI_cons (ρ : Env) (i : Nat) (r : List Nat) : fzI ρ (i :: r) = fzI (frz1 ρ i) r := rfl
def kP (o : Option R) (ρ : Env) : Option (R × Env) := o.map fun r => (r, ρ)
@[simp] theorem mP_ap (A : EE) (ρ : Env) : mP A ρ = kP (A ρ) ρ := rfl
@[simp] theorem kP_some (r : R) (ρ : Env) : kP (some r) ρ = some (r, ρ) := rfl
@[simp] theorem st1_v (i : Nat) (d : D) (ρ : Env) : st1 i (.v d) ρ = some (ρ.set i (some (.v d))) := rfl
@[simp] theorem st1_own (i : Nat) (ds : List D) (ρ : Env) : st1 i (.own ds) ρ = some (ρ.set i (some (.own ds))) := rfl
@[simp] theorem stB_v (b : D → Env → Option Env) (d : D) (ρ : Env) : stB b (.v d) ρ = b d ρ := rfl
@[simp] theorem stB_own (b : D → Env → Option Env) (ds : List D) (ρ : Env) : stB b (.own ds) ρ = b (.list ds) ρ := rfl
@[simp] theorem sDoc_ap (ρ : Env) : sDoc ρ = some (.nx ρ) := rfl
@[simp] theorem sBrk_ap (ρ : Env) : sBrk ρ = some (.bk ρ) := rfl
@[simp] theorem sCnt_ap (ρ : Env) : sCnt ρ = some (.ct ρ) := rfl
@[simp] theorem sRet0_ap (ρ : Env) : sRet0 ρ = some (.ret Non) := rfl
def kR (o : Option (R × Env)) : Option Fl := o.bind fun s => if stoR s.1 = true then some (.ret s.1) else none
@[simp] theorem sRet_ap (fz : List Nat) (M : EM) (ρ : Env) : sRet fz M ρ = kR (M (fzI ρ fz)) := rfl
@[simp] theorem kR_v (d : D) (ρ : Env) : kR (some (.v d, ρ)) = some (.ret (.v d)) := rfl
@[simp] theorem kR_own (ds : List D) (ρ : Env) : kR (some (.own ds, ρ)) = some (.ret (.own ds)) := rfl
def kRN (o : Option R) (i : Nat) (ρ : Env) : Option Fl := match o.bind fun r => if isOwn r = true then some r else none with
  | some r => some (.ret r)
  | none => sRet [i] (mP (vr i)) ρ
@[simp] theorem sRetN_ap (i : Nat) (ρ : Env) : sRetN i ρ = kRN (getE ρ i) i ρ := rfl
@[simp] theorem kRN_own (ds : List D) (i : Nat) (ρ : Env) : kRN (some (.own ds)) i ρ = some (.ret (.own ds)) := rfl
@[simp] theorem kRN_v (d : D) (i : Nat) (ρ : Env) : kRN (some (.v d)) i ρ = sRet [i] (mP (vr i)) ρ := rfl
@[simp] theorem fin_ret (r : R) : fin (some (.ret r)) = some r := rfl
@[simp] theorem fin_nx (ρ : Env) : fin (some (.nx ρ)) = some Non := rfl
def kAu (o1 o2 : Option R) (i : Nat) (g : Int → Int → Int) (ρ : Env) : Option Fl := (o1.bind toInt).bind fun a => (o2.bind toInt).bind fun b => some (.nx (ρ.set i (some (I (g a b)))))
@[simp] theorem sAug_ap (i : Nat) (g : Int → Int → Int) (A : EE) (ρ : Env) : sAug i g A ρ = kAu (getE ρ i) (A ρ) i g ρ := rfl
@[simp] theorem kAu_some (a b : Int) (i : Nat) (g : Int → Int → Int) (ρ : Env) : kAu (some (I a)) (some (I b)) i g ρ = some (.nx (ρ.set i (some (I (g a b))))) := rfl
/-! ### names -/
@[simp] theorem getE_z (a : Option R) (ρ : Env) : getE (a :: ρ) 0 = a := rfl
@[simp] theorem getE_s (a : Option R) (ρ : Env) (i : Nat) : getE (a :: ρ) (i + 1) = getE ρ i := rfl
def kV (o : Option R) : Option R := o.map readR
@[simp] theorem vr_ap (i : Nat) (ρ : Env) : vr i ρ = kV (getE ρ i) := rfl
@[simp] theorem kV_v (d : D) : kV (some (.v d)) = some (.v d) := rfl
@[simp] theorem kV_own (ds : List D) : kV (some (.own ds)) = some (.bor ds) := rfl
@[simp] theorem kV_bor (ds : List D) : kV (some (.bor ds)) = some (.bor ds) := rfl
@[simp] theorem kV_scr (ns : List Int) : kV (some (.scr ns)) = some (.scr ns) := rfl
theorem frz1_at (ρ : Env) (i : Nat) : frz1 ρ i = match getE ρ i with
    | some (.own ds) => ρ.set i (some (.v (.list ds)))
    | _ => ρ := by
  unfold frz1 getE
  rcases h : ρ[i]? with _ | _ | r
  · rfl
  · rfl
  · cases r <;> rfl
def kZ (o : Option R) (ρ : Env) (i : Nat) : Env := match o with
    | some (.own ds) => ρ.set i (some (.v (.list ds)))
    | _ => ρ
@[simp] theorem frz1_ap (ρ : Env) (i : Nat) : frz1 ρ i = kZ (getE ρ i) ρ i := frz1_at ρ i
@[simp] theorem kZ_own (ds : List D) (ρ : Env) (i : Nat) : kZ (some (.own ds)) ρ i = ρ.set i (some (.v (.list ds))) := rfl
@[simp] theorem kZ_v (d : D) (ρ : Env) (i : Nat) : kZ (some (.v d)) ρ i = ρ := rfl
@[simp] theorem kZ_bor (ds : List D) (ρ : Env) (i : Nat) : kZ (some (.bor ds)) ρ i = ρ := rfl
def kOw (o : Option R) : Option (List D) := match o with
  | some (.own ds) => some ds
  | _ => none
@[simp] theorem ownAt_ap (ρ : Env) (i : Nat) : ownAt ρ i = kOw (getE ρ i) := by
  unfold ownAt getE kOw
  rcases h : ρ[i]? with _ | _ | r
  · rfl
  · rfl
  · cases r <;> rfl
@[simp] theorem kOw_own (ds : List D) : kOw (some (.own ds)) = some ds := rfl
@[simp] theorem wipeE_nil (ρ : Env) : wipeE ρ [] = ρ := rfl
@[simp] theorem wipeE_cons (ρ : Env) (v : Nat) (vs : List Nat) : wipeE ρ (v :: vs) = (wipeE ρ vs).set v none := rfl
/-! ### expressions -/
@[simp] theorem kI_ap (i : Int) (ρ : Env) : kI i ρ = some (I i) := rfl
@[simp] theorem kBo_ap (b : Bool) (ρ : Env) : kBo b ρ = some (Bl b) := rfl
@[simp] theorem kN_ap (ρ : Env) : kN ρ = some Non := rfl
@[simp] theorem kS_ap (s : Str) (ρ : Env) : kS s ρ = some (.v (.str s)) := rfl
def k2 (o1 o2 : Option R) (g : R → R → Option R) : Option R := o1.bind fun a => o2.bind fun b => g a b
@[simp] theorem bind2_ap (A B : EE) (g : R → R → Option R) (ρ : Env) : bind2 A B g ρ = k2 (A ρ) (B ρ) g := rfl
@[simp] theorem k2_some (a b : R) (g : R → R → Option R) : k2 (some a) (some b) g = g a b := rfl
def kNt (o : Option R) : Option R := o.bind fun r => (truR r).map fun b => Bl (!b)
@[simp] theorem ntE_ap (A : EE) (ρ : Env) : ntE A ρ = kNt (A ρ) := rfl
@[simp] theorem kNt_bl (b : Bool) : kNt (some (Bl b)) = some (Bl (!b)) := rfl
def kNg (o : Option R) : Option R := o.bind negR
@[simp] theorem ngE_ap (A : EE) (ρ : Env) : ngE A ρ = kNg (A ρ) := rfl
@[simp] theorem kNg_i (a : Int) : kNg (some (I a)) = some (I (-a)) := rfl
def kTu (o : Option (List R)) : Option R := o.bind fun rs => (allVs rs).bind fun ds => if ds.length ≤ sizeLine then some (.v (.tuple ds)) else none
@[simp] theorem tupE_ap (A : EA) (ρ : Env) : tupE A ρ = kTu (A ρ) := rfl
@[simp] theorem kTu_0 : kTu (some []) = some (.v (.tuple [])) := rfl
@[simp] theorem kTu_1 (a : D) : kTu (some [.v a]) = some (.v (.tuple [a])) := rfl
@[simp] theorem kTu_2 (a b : D) : kTu (some [.v a, .v b]) = some (.v (.tuple [a, b])) := rfl
@[simp] theorem kTu_3 (a b c : D) : kTu (some [.v a, .v b, .v c]) = some (.v (.tuple [a, b, c])) := rfl
@[simp] theorem kTu_4 (a b c d : D) : kTu (some [.v a, .v b, .v c, .v d]) = some (.v (.tuple [a, b, c, d])) := rfl
@[simp] theorem kTu_5 (a b c d e : D) : kTu (some [.v a, .v b, .v c, .v d, .v e]) = some (.v (.tuple [a, b, c, d, e])) := rfl
@[simp] theorem kTu_6 (a b c d e f : D) : kTu (some [.v a, .v b, .v c, .v d, .v e, .v f]) = some (.v (.tuple [a, b, c, d, e, f])) := rfl
@[simp] theorem kTu_7 (a b c d e f g : D) : kTu (some [.v a, .v b, .v c, .v d, .v e, .v f, .v g]) = some (.v (.tuple [a, b, c, d, e, f, g])) := rfl
@[simp] theorem kTu_8 (a b c d e f g h : D) : kTu (some [.v a, .v b, .v c, .v d, .v e, .v f, .v g, .v h]) = some (.v (.tuple [a, b, c, d, e, f, g, h])) := rfl
def kLs (o : Option (List R)) : Option R := o.bind fun rs => (allVs rs).bind fun ds => if ds.length ≤ sizeLine then some (.own ds) else none
@[simp] theorem lstE_ap (A : EA) (ρ : Env) : lstE A ρ = kLs (A ρ) := rfl
@[simp] theorem kLs_0 : kLs (some []) = some (.own []) := rfl
@[simp] theorem kLs_1 (a : D) : kLs (some [.v a]) = some (.own [a]) := rfl
@[simp] theorem kLs_2 (a b : D) : kLs (some [.v a, .v b]) = some (.own [a, b]) := rfl
@[simp] theorem kLs_3 (a b c : D) : kLs (some [.v a, .v b, .v c]) = some (.own [a, b, c]) := rfl
@[simp] theorem ag0_ap (ρ : Env) : ag0 ρ = some [] := rfl
def kAg (o : Option R) (p : Option (List R)) : Option (List R) := o.bind fun x => p.bind fun rs => some (argR x :: rs)
@[simp] theorem agE_ap (A : EE) (B : EA) (ρ : Env) : agE A B ρ = kAg (A ρ) (B ρ) := rfl
@[simp] theorem kAg_v (d : D) (rs : List R) : kAg (some (.v d)) (some rs) = some (.v d :: rs) := rfl
@[simp] theorem kAg_own (ds : List D) (rs : List R) : kAg (some (.own ds)) (some rs) = some (.v (.list ds) :: rs) := rfl
@[simp] theorem kAg_bor (ds : List D) (rs : List R) : kAg (some (.bor ds)) (some rs) = some (.bor ds :: rs) := rfl
@[simp] theorem kAg_scr (ds : List Int) (rs : List R) : kAg (some (.scr ds)) (some rs) = some (.scr ds :: rs) := rfl
@[simp] theorem oN_ap (ρ : Env) : oN ρ = some none := rfl
def kO (o : Option R) : Option (Option Int) := (o.bind toInt).map some
@[simp] theorem oS_ap (A : EE) (ρ : Env) : oS A ρ = kO (A ρ) := rfl
@[simp] theorem kO_i (a : Int) : kO (some (I a)) = some (some a) := rfl
def kCt (o : Option R) (l h : Option (Option Int)) : Option R := o.bind fun r => l.bind fun l => h.bind fun h => slR r l h
@[simp] theorem cutE_ap (A : EE) (l h : Env → Option (Option Int)) (ρ : Env) : cutE A l h ρ = kCt (A ρ) (l ρ) (h ρ) := rfl
@[simp] theorem kCt_some (r : R) (l h : Option Int) : kCt (some r) (some l) (some h) = slR r l h := rfl
@[simp] theorem slR_tup (ds : List D) (l h : Option Int) : slR (.v (.tuple ds)) l h = some (.v (.tuple (cutD ds l h))) := rfl
@[simp] theorem slR_list (ds : List D) (l h : Option Int) : slR (.v (.list ds)) l h = some (.own (cutD ds l h)) := rfl
@[simp] theorem slR_bor (ds : List D) (l h : Option Int) : slR (.bor ds) l h = some (.own (cutD ds l h)) := rfl
@[simp] theorem slR_own (ds : List D) (l h : Option Int) : slR (.own ds) l h = some (.own (cutD ds l h)) := rfl
def k1 (o : Option R) (g : R → Option R) : Option R := o.bind g
@[simp] theorem k1_some (r : R) (g : R → Option R) : k1 (some r) g = g r := rfl
@[simp] theorem rvE_ap (A : EE) (ρ : Env) : rvE A ρ = k1 (A ρ) revR := rfl
@[simp] theorem revR_tup (ds : List D) : revR (.v (.tuple ds)) = some (.v (.tuple ds.reverse)) := rfl
@[simp] theorem revR_list (ds : List D) : revR (.v (.list ds)) = some (.own ds.reverse) := rfl
@[simp] theorem revR_bor (ds : List D) : revR (.bor ds) = some (.own ds.reverse) := rfl
@[simp] theorem revR_own (ds : List D) : revR (.own ds) = some (.own ds.reverse) := rfl
def kC (o : Option (List R)) (g : List R → Option R) : Option R := o.bind g
@[simp] theorem caE_ap (A : EA) (g : List R → Option R) (ρ : Env) : caE A g ρ = kC (A ρ) g := rfl
@[simp] theorem kC_some (rs : List R) (g : List R → Option R) : kC (some rs) g = g rs := rfl
@[simp] theorem oneR_1 (g : R → Option R) (x : R) : oneR g [x] = g x := rfl
@[simp] theorem isE_ap (A : EE) (s : String) (ρ : Env) : isE A s ρ = k1 (A ρ) (isiR s) := rfl
def kVA (o : Option R) (B : EE) (ρ : Env) : Option R := o.bind fun c => (toBool c).bind fun c => if c = true then B ρ else some (Bl false)
@[simp] theorem vAnd_ap (A B : EE) (ρ : Env) : vAnd A B ρ = kVA (A ρ) B ρ := rfl
@[simp] theorem kVA_t (B : EE) (ρ : Env) : kVA (some (Bl true)) B ρ = B ρ := rfl
@[simp] theorem kVA_f (B : EE) (ρ : Env) : kVA (some (Bl false)) B ρ = some (Bl false) := rfl
def kVO (o : Option R) (B : EE) (ρ : Env) : Option R := o.bind fun c => (toBool c).bind fun c => if c = true then some (Bl true) else B ρ
@[simp] theorem vOr_ap (A B : EE) (ρ : Env) : vOr A B ρ = kVO (A ρ) B ρ := rfl
@[simp] theorem kVO_t (B : EE) (ρ : Env) : kVO (some (Bl true)) B ρ = some (Bl true) := rfl
@[simp] theorem kVO_f (B : EE) (ρ : Env) : kVO (some (Bl false)) B ρ = B ρ := rfl
def kT (o : Option R) : Option Bool := o.bind truR
@[simp] theorem tE_ap (A : EE) (ρ : Env) : tE A ρ = kT (A ρ) := rfl
@[simp] theorem kT_bl (b : Bool) : kT (some (Bl b)) = some b := rfl
@[simp] theorem kT_i (n : Int) : kT (some (I n)) = some (n != 0) := rfl
@[simp] theorem kT_non : kT (some Non) = some false := rfl
@[simp] theorem kT_tup (ds : List D) : kT (some (.v (.tuple ds))) = some (!ds.isEmpty) := rfl
@[simp] theorem kT_list (ds : List D) : kT (some (.v (.list ds))) = some (!ds.isEmpty) := rfl
@[simp] theorem kT_bor (ds : List D) : kT (some (.bor ds)) = some (!ds.isEmpty) := rfl
def kTN (o : Option Bool) : Option Bool := o.map fun b => !b
@[simp] theorem tNot_ap (A : EB) (ρ : Env) : tNot A ρ = kTN (A ρ) := rfl
@[simp] theorem kTN_some (b : Bool) : kTN (some b) = some (!b) := rfl
def kTA (o : Option Bool) (B : EB) (ρ : Env) : Option Bool := o.bind fun c => if c = true then B ρ else some false
@[simp] theorem tAnd_ap (A B : EB) (ρ : Env) : tAnd A B ρ = kTA (A ρ) B ρ := rfl
@[simp] theorem kTA_t (B : EB) (ρ : Env) : kTA (some true) B ρ = B ρ := rfl
@[simp] theorem kTA_f (B : EB) (ρ : Env) : kTA (some false) B ρ = some false := rfl
def kTO (o : Option Bool) (B : EB) (ρ : Env) : Option Bool := o.bind fun c => if c = true then some true else B ρ
@[simp] theorem tOr_ap (A B : EB) (ρ : Env) : tOr A B ρ = kTO (A ρ) B ρ := rfl
@[simp] theorem kTO_t (B : EB) (ρ : Env) : kTO (some true) B ρ = some true := rfl
@[simp] theorem kTO_f (B : EB) (ρ : Env) : kTO (some false) B ρ = B ρ := rfl
@[simp] theorem fTrue_ap (ρ : Env) : fTrue ρ = some true := rfl
/-! ### comparisons, arithmetic -/
@[simp] theorem binR_add (x y : R) : binR .Add x y = addR x y := rfl
@[simp] theorem binR_sub (x y : R) : binR .Sub x y = subR x y := rfl
@[simp] theorem binR_mul (x y : R) : binR .Mult x y = mulR x y := rfl
@[simp] theorem binR_div (x y : R) : binR .FloorDiv x y = divR x y := rfl
@[simp] theorem binR_mod (x y : R) : binR .Mod x y = modR x y := rfl
@[simp] theorem binR_pow (x y : R) : binR .Pow x y = powR x y := rfl
@[simp] theorem addR_i (a b : Int) : addR (I a) (I b) = some (I (a + b)) := rfl
@[simp] theorem subR_i (a b : Int) : subR (I a) (I b) = some (I (a - b)) := rfl
theorem mulR_i (a b : Int) : mulR (I a) (I b) = if CMul a b then some (I (a * b)) else none := rfl
theorem mulR_ok {a b : Int} (h : CMul a b) : mulR (I a) (I b) = some (I (a * b)) := (mulR_i a b).trans (if_pos h)
theorem divR_ok {a b : Int} (h : CDivW a b) : divR (I a) (I b) = some (I (a / b)) := if_pos h
theorem modR_ok {a b : Int} (h : 0 < b) : modR (I a) (I b) = some (I (a % b)) := if_pos h
@[simp] theorem cmpR_lt (a b : Int) : cmpR .Lt (I a) (I b) = some (Bl (decide (a < b))) := rfl
@[simp] theorem cmpR_le (a b : Int) : cmpR .LtE (I a) (I b) = some (Bl (decide (a ≤ b))) := rfl
@[simp] theorem cmpR_gt (a b : Int) : cmpR .Gt (I a) (I b) = some (Bl (decide (b < a))) := rfl
@[simp] theorem cmpR_ge (a b : Int) : cmpR .GtE (I a) (I b) = some (Bl (decide (b ≤ a))) := rfl
theorem beq_int (a b : Int) : (a == b) = decide (a = b) := rfl
@[simp] theorem cmpR_eq (a b : Int) : cmpR .Eq (I a) (I b) = some (Bl (decide (a = b))) := by
  have h : ∀ n : Int, shD (.int n) = true := fun n => rfl
  show (if shD (.int a) = true ∧ shD (.int b) = true then some (Bl (PyData.eqv (.int a) (.int b))) else none) = _
  rw [if_pos ⟨h a, h b⟩, PyData.eqv, beq_int]
@[simp] theorem cmpR_ne (a b : Int) : cmpR .NotEq (I a) (I b) = some (Bl (!decide (a = b))) := by
  have h : ∀ n : Int, shD (.int n) = true := fun n => rfl
  show (if shD (.int a) = true ∧ shD (.int b) = true then some (Bl (!PyData.eqv (.int a) (.int b))) else none) = _
  rw [if_pos ⟨h a, h b⟩, PyData.eqv, beq_int]
@[simp] theorem cmpR_is (r : R) : cmpR .Is r Non = some (Bl (isNone r)) := rfl
@[simp] theorem cmpR_isn (r : R) : cmpR .IsNot r Non = some (Bl (!isNone r)) := rfl
@[simp] theorem isNone_non : isNone Non = true := rfl
@[simp] theorem isNone_i (a : Int) : isNone (I a) = false := rfl
@[simp] theorem isNone_b (a : Bool) : isNone (Bl a) = false := rfl
@[simp] theorem isNone_t (a : List D) : isNone (.v (.tuple a)) = false := rfl
@[simp] theorem addR_tup (a b : List D) : addR (.v (.tuple a)) (.v (.tuple b)) = if a.length + b.length ≤ sizeLine then some (.v (.tuple (a ++ b))) else none := rfl
@[simp] theorem addR_oo (a b : List D) : addR (.own a) (.own b) = if a.length + b.length ≤ sizeLine then some (.own (a ++ b)) else none := rfl
@[simp] theorem addR_bo (a b : List D) : addR (.bor a) (.own b) = if a.length + b.length ≤ sizeLine then some (.own (a ++ b)) else none := rfl
@[simp] theorem ixR_bor (ds : List D) (i : Int) : ixR (.bor ds) (I i) = (atI ds i).map .v := rfl
@[simp] theorem ixR_own (ds : List D) (i : Int) : ixR (.own ds) (I i) = (atI ds i).map .v := rfl
@[simp] theorem ixR_tup (ds : List D) (i : Int) : ixR (.v (.tuple ds)) (I i) = (atI ds i).map .v := rfl
@[simp] theorem ixR_list (ds : List D) (i : Int) : ixR (.v (.list ds)) (I i) = (atI ds i).map .v := rfl
@[simp] theorem ixR_scr (ns : List Int) (i : Int) : ixR (.scr ns) (I i) = (atI ns i).map I := rfl
theorem atI_some {α : Type} {xs : List α} {i : Int} {j : Nat} {x : α} (hi : i = (j : Nat)) (h : xs[j]? = some x) : atI xs i = some x := by
  have hj : j < xs.length := (List.getElem?_eq_some_iff.mp h).1
  subst hi
  unfold atI ixN
  rw [if_pos (by omega), if_pos (by omega)]
  simpa using h
theorem atI_last {α : Type} {xs : List α} {x : α} : atI (xs ++ [x]) (-1) = some x := by
  unfold atI ixN
  rw [if_neg (by omega), if_pos (by simp; omega)]
  simp
  have : ((-1 + ((xs.length : Int) + 1)).toNat) = xs.length := by omega
  rw [this]
  simp
/-! ### built-ins -/
@[simp] theorem lenR_tup (ds : List D) : lenR (.v (.tuple ds)) = some (I ds.length) := rfl
@[simp] theorem lenR_list (ds : List D) : lenR (.v (.list ds)) = some (I ds.length) := rfl
@[simp] theorem lenR_bor (ds : List D) : lenR (.bor ds) = some (I ds.length) := rfl
@[simp] theorem lenR_scr (ds : List Int) : lenR (.scr ds) = some (I ds.length) := rfl
@[simp] theorem absR_i (n : Int) : absR (I n) = some (I (if n < 0 then -n else n)) := rfl
@[simp] theorem intR_i (n : Int) : intR (I n) = some (I n) := rfl
@[simp] theorem minA_2 (a b : Int) : minA [I a, I b] = some (I (if b < a then b else a)) := rfl
@[simp] theorem maxA_2 (a b : Int) : maxA [I a, I b] = some (I (if b > a then b else a)) := rfl
@[simp] theorem tupleR_tup (ds : List D) : tupleR (.v (.tuple ds)) = some (.v (.tuple ds)) := rfl
@[simp] theorem tupleR_list (ds : List D) : tupleR (.v (.list ds)) = some (.v (.tuple ds)) := rfl
@[simp] theorem tupleR_bor (ds : List D) : tupleR (.bor ds) = some (.v (.tuple ds)) := rfl
@[simp] theorem listR_tup (ds : List D) : listR (.v (.tuple ds)) = some (.own ds) := rfl
@[simp] theorem listR_list (ds : List D) : listR (.v (.list ds)) = some (.own ds) := rfl
@[simp] theorem listR_bor (ds : List D) : listR (.bor ds) = some (.own ds) := rfl
@[simp] theorem sumR_ints (ns : List Int) : sumR (.v (.list (ns.map .int))) = some (I ns.sum) := by
  show ((intsOf (ns.map PyData.int)).bind _) = _
  rw [intsOf_map]
  rfl
/-! ### walks -/
def kIt (o : Option R) (g : R → Option (Bool × List D)) : Option (Bool × List D) := o.bind g
@[simp] theorem kIt_some (r : R) (g : R → Option (Bool × List D)) : kIt (some r) g = g r := rfl
@[simp] theorem iSeq_ap (A : EE) (ρ : Env) : iSeq A ρ = kIt (A ρ) seqI := rfl
@[simp] theorem iEnum_ap (A : EE) (ρ : Env) : iEnum A ρ = kIt (A ρ) enumI := rfl
@[simp] theorem iRev_ap (A : EE) (ρ : Env) : iRev A ρ = kIt (A ρ) revI := rfl
@[simp] theorem seqI_tup (ds : List D) : seqI (.v (.tuple ds)) = some (true, ds) := rfl
@[simp] theorem seqI_list (ds : List D) : seqI (.v (.list ds)) = some (true, ds) := rfl
@[simp] theorem seqI_own (ds : List D) : seqI (.own ds) = some (true, ds) := rfl
@[simp] theorem seqI_bor (ds : List D) : seqI (.bor ds) = some (false, ds) := rfl
@[simp] theorem enumI_tup (ds : List D) : enumI (.v (.tuple ds)) = some (true, enumD ds) := rfl
@[simp] theorem enumI_list (ds : List D) : enumI (.v (.list ds)) = some (true, enumD ds) := rfl
@[simp] theorem enumI_own (ds : List D) : enumI (.own ds) = some (true, enumD ds) := rfl
@[simp] theorem enumI_bor (ds : List D) : enumI (.bor ds) = some (false, enumD ds) := rfl
@[simp] theorem revI_tup (ds : List D) : revI (.v (.tuple ds)) = some (true, ds.reverse) := rfl
@[simp] theorem revI_list (ds : List D) : revI (.v (.list ds)) = some (true, ds.reverse) := rfl
@[simp] theorem revI_own (ds : List D) : revI (.own ds) = some (true, ds.reverse) := rfl
@[simp] theorem revI_bor (ds : List D) : revI (.bor ds) = some (false, ds.reverse) := rfl
def kRg (o : Option (List R)) : Option (Bool × List D) := o.bind rngI
@[simp] theorem iRng_ap (A : EA) (ρ : Env) : iRng A ρ = kRg (A ρ) := rfl
theorem kRg_1 {n : Int} (h : n ≤ 16777216) (h0 : -(2 ^ 62) ≤ n) : kRg (some [I n]) = some (true, rngD 0 n.toNat) := if_pos ⟨h, h0⟩
theorem kRg_2 {a b : Int} (h : (-(2 ^ 62) ≤ a ∧ a < 2 ^ 62 ∧ -(2 ^ 62) ≤ b ∧ b < 2 ^ 62) ∧ (b - a).toNat ≤ 16777216) : kRg (some [I a, I b]) = some (true, rngD a (b - a).toNat) := if_pos h
theorem kRg_3 {a b : Int} (h : (-(2 ^ 62) ≤ a ∧ a < 2 ^ 62 ∧ -(2 ^ 62) ≤ b ∧ b < 2 ^ 62) ∧ (a - b).toNat ≤ 16777216) : kRg (some [I a, I b, I (-1)]) = some (true, rngC a (-1) (a - b).toNat) := if_pos ⟨h, rfl⟩
def kB1 (o : Option Env) (B : ES) : Option Fl := o.bind B
@[simp] theorem kB1_some (ρ : Env) (B : ES) : kB1 (some ρ) B = B ρ := rfl
def stp (b : D → Env → Option Env) (B : ES) : D → Env → Option Fl := fun d ρ => kB1 (b d ρ) B
@[simp] theorem stp_ap (b : D → Env → Option Env) (B : ES) (d : D) (ρ : Env) : stp b B d ρ = kB1 (b d ρ) B := rfl
def kF (o : Option (Bool × List D)) (b : D → Env → Option Env) (B : ES) (ρ : Env) : Option Fl := o.bind fun s => if s.1 = true then forL (stp b B) s.2 ρ else none
@[simp] theorem sFor_ap (fz : List Nat) (It : EI') (b : D → Env → Option Env) (B : ES) (ρ : Env) : sFor fz It b B ρ = kF (It (fzI ρ fz)) b B (fzI ρ fz) := rfl
@[simp] theorem kF_some (ds : List D) (b : D → Env → Option Env) (B : ES) (ρ : Env) : kF (some (true, ds)) b B ρ = forL (stp b B) ds ρ := rfl
@[simp] theorem b1_ap (i : Nat) (d : D) (ρ : Env) : b1 i d ρ = some (ρ.set i (some (.v d))) := rfl
@[simp] theorem bT_2 (bs : List D → Env → Option Env) (a b : D) (ρ : Env) : bT 2 bs (.tuple [a, b]) ρ = bs [a, b] ρ := rfl
@[simp] theorem bT_3 (bs : List D → Env → Option Env) (a b c : D) (ρ : Env) : bT 3 bs (.tuple [a, b, c]) ρ = bs [a, b, c] ρ := rfl
@[simp] theorem bN_ap (ρ : Env) : bN [] ρ = some ρ := rfl
def kBC (o : Option Env) (bs : List D → Env → Option Env) (ds : List D) : Option Env := o.bind (bs ds)
@[simp] theorem bC_ap (b : D → Env → Option Env) (bs : List D → Env → Option Env) (d : D) (ds : List D) (ρ : Env) : bC b bs (d :: ds) ρ = kBC (b d ρ) bs ds := rfl
@[simp] theorem kBC_some (ρ : Env) (bs : List D → Env → Option Env) (ds : List D) : kBC (some ρ) bs ds = bs ds ρ := rfl
def kLc (o : Option (Bool × List D)) (b : D → Env → Option Env) (F : EB) (E : EE) (ρ : Env) : Option R := o.bind fun s => (compL (turnC b F (fun ρ => (E ρ).bind toV) ρ) s.2).map .own
@[simp] theorem lcE_ap (It : EI') (vs : List Nat) (b : D → Env → Option Env) (F : EB) (E : EE) (ρ : Env) : lcE It vs b F E ρ = kLc (It ρ) b F E (wipeE ρ vs) := rfl
def cmp (b : D → Env → Option Env) (F : EB) (E : EE) (ρ : Env) (ds : List D) : Option R := (compL (turnC b F (fun ρ => (E ρ).bind toV) ρ) ds).map .own
@[simp] theorem kLc_some (t : Bool) (ds : List D) (b : D → Env → Option Env) (F : EB) (E : EE) (ρ : Env) : kLc (some (t, ds)) b F E ρ = cmp b F E ρ ds := rfl
/-- a comprehension: each item gives a value -/
theorem cmp_map {b : D → Env → Option Env} {E : EE} {ρ : Env} {α : Type} (f : α → D) (g : α → D) : ∀ (xs : List α), (∀ x ∈ xs, ∃ ρ', b (f x) ρ = some ρ' ∧ ∃ r, E ρ' = some r ∧ toV r = some (g x)) → cmp b fTrue E ρ (xs.map f) = some (.own (xs.map g)) := by
  intro xs h
  unfold cmp
  have : compL (turnC b fTrue (fun ρ => (E ρ).bind toV) ρ) (xs.map f) = some (xs.map g) := by
    induction xs with
    | nil => rfl
    | cons x xs ih =>
      obtain ⟨ρ', e1, r, e2, e3⟩ := h x List.mem_cons_self
      have e : turnC b fTrue (fun ρ => (E ρ).bind toV) ρ (f x) = some (some (g x)) := by
        unfold turnC
        rw [e1]
        show (if (true = true) then ((E ρ').bind toV).map some else some none) = _
        rw [if_pos rfl, e2]
        show (toV r).map some = _
        rw [e3]
        rfl
      rw [List.map_cons, List.map_cons, compL, e, ih fun y hy => h y (List.mem_cons_of_mem _ hy)]
      rfl
  rw [this]
  rfl
/-- a comprehension with a test -/
theorem cmp_filter {b : D → Env → Option Env} {F : EB} {E : EE} {ρ : Env} {α : Type} (f : α → D) (g : α → D) (p : α → Bool) : ∀ (xs : List α), (∀ x ∈ xs, ∃ ρ', b (f x) ρ = some ρ' ∧ F ρ' = some (p x) ∧ (p x = true → ∃ r, E ρ' = some r ∧ toV r = some (g x))) → cmp b F E ρ (xs.map f) = some (.own ((xs.filter p).map g)) := by
  intro xs h
  unfold cmp
  have : compL (turnC b F (fun ρ => (E ρ).bind toV) ρ) (xs.map f) = some ((xs.filter p).map g) := by
    induction xs with
    | nil => rfl
    | cons x xs ih =>
      obtain ⟨ρ', e1, e2, e3⟩ := h x List.mem_cons_self
      have ih' := ih fun y hy => h y (List.mem_cons_of_mem _ hy)
      rw [List.map_cons, compL, ih']
      unfold turnC
      rw [e1]
      show Option.bind (Option.bind (F ρ') _) _ = _
      rw [e2]
      cases hp : p x with
      | true =>
        obtain ⟨r, e4, e5⟩ := e3 hp
        show Option.bind (if (true = true) then ((E ρ').bind toV).map some else some none) _ = _
        rw [if_pos rfl, e4]
        show Option.bind ((toV r).map some) _ = _
        rw [e5, List.filter_cons_of_pos hp]
        rfl
      | false =>
        rw [List.filter_cons_of_neg (by rw [hp]; simp)]
        rfl
  rw [this]
  rfl
/-! ### loops -/
theorem forL_inv {step : D → Env → Option Fl} {ds : List D} (P : Nat → Env → Prop) {ρ : Env} (h0 : P 0 ρ) (h : ∀ (i : Nat) (d : D) (ρ : Env), ds[i]? = some d → P i ρ → ∃ ρ', step d ρ = some (.nx ρ') ∧ P (i + 1) ρ') : ∃ ρ', forL step ds ρ = some (.nx ρ') ∧ P ds.length ρ' := by
  induction ds generalizing P ρ with
  | nil => exact ⟨ρ, rfl, h0⟩
  | cons d ds ih =>
    obtain ⟨ρ1, e1, p1⟩ := h 0 d ρ rfl h0
    obtain ⟨ρ2, e2, p2⟩ := ih (fun i => P (i + 1)) p1 fun i d ρ e p => h (i + 1) d ρ (by simpa using e) p
    refine ⟨ρ2, ?_, p2⟩
    show ((step d ρ).bind _) = _
    rw [e1]
    exact e2
theorem forL_fold {α S : Type} {step : D → Env → Option Fl} (f : α → D) (em : S → Env) (g : S → α → S) : ∀ (xs : List α) (s : S), (∀ x ∈ xs, ∀ s, step (f x) (em s) = some (.nx (em (g s x)))) → forL step (xs.map f) (em s) = some (.nx (em (xs.foldl g s)))
  | [], s, _ => rfl
  | x :: xs, s, h => by
    show ((step (f x) (em s)).bind _) = _
    rw [h x List.mem_cons_self s]
    exact forL_fold f em g xs (g s x) fun y hy => h y (List.mem_cons_of_mem _ hy)
@[simp] theorem rngD_len (lo : Int) (n : Nat) : (rngD lo n).length = n := rngD_length lo n
theorem rngD_get {lo : Int} {n i : Nat} {d : D} (h : (rngD lo n)[i]? = some d) : d = .int (lo + (i : Nat)) ∧ i < n := by
  unfold rngD at h
  rw [List.getElem?_map] at h
  obtain ⟨j, e1, e2⟩ := Option.map_eq_some_iff.mp h
  obtain ⟨hi, e3⟩ := List.getElem?_eq_some_iff.mp e1
  simp at e3 hi
  subst e3
  exact ⟨e2.symm, hi⟩
theorem rngC_get {lo c : Int} {n i : Nat} {d : D} (h : (rngC lo c n)[i]? = some d) : d = .int (lo + (i : Nat) * c) ∧ i < n := by
  unfold rngC at h
  rw [List.getElem?_map] at h
  obtain ⟨j, e1, e2⟩ := Option.map_eq_some_iff.mp h
  obtain ⟨hi, e3⟩ := List.getElem?_eq_some_iff.mp e1
  simp at e3 hi
  subst e3
  exact ⟨e2.symm, hi⟩
theorem enumD_at {ds : List D} {i : Nat} {d : D} (h : (enumD ds)[i]? = some d) : ∃ e, ds[i]? = some e ∧ d = .tuple [.int (i : Nat), e] := by
  unfold enumD at h
  rw [List.getElem?_map] at h
  obtain ⟨j, e1, e2⟩ := Option.map_eq_some_iff.mp h
  rw [List.getElem?_zipIdx] at e1
  obtain ⟨e, e3, e4⟩ := Option.map_eq_some_iff.mp e1
  subst e4
  exact ⟨e, e3, by rw [← e2]; simp⟩
end Kd

/-! Kd18: what the laws share: cells, draws, the judge of values. -/
namespace Kd
open PySem PySem.Spec PyProof.Rows L2
def kCh2 (o : Option R) (b : R) (op' : CmpOp) (C : EE) (ρ : Env) : Option R := o.bind fun r => match r with
  | .v (.bool true) => (C ρ).bind fun c => cmpR op' b c
  | .v (.bool false) => some (Bl false)
  | _ => none
def kCh (o1 o2 : Option R) (op op' : CmpOp) (C : EE) (ρ : Env) : Option R := o1.bind fun a => o2.bind fun b => kCh2 (cmpR op a b) b op' C ρ
@[simp] theorem chainR_ap (op op' : CmpOp) (A B C : EE) (ρ : Env) : chainR op op' A B C ρ = kCh (A ρ) (B ρ) op op' C ρ := rfl
@[simp] theorem kCh_some (a b : R) (op op' : CmpOp) (C : EE) (ρ : Env) : kCh (some a) (some b) op op' C ρ = kCh2 (cmpR op a b) b op' C ρ := rfl
@[simp] theorem kCh2_t (b : R) (op' : CmpOp) (C : EE) (ρ : Env) : kCh2 (some (Bl true)) b op' C ρ = k2 (some b) (C ρ) (cmpR op') := rfl
@[simp] theorem kCh2_f (b : R) (op' : CmpOp) (C : EE) (ρ : Env) : kCh2 (some (Bl false)) b op' C ρ = some (Bl false) := rfl
def kAp (o : Option R) (p : Option (List D)) (i : Nat) (ρ : Env) : Option Fl := (o.bind toV).bind fun d => p.bind fun ds => if ds.length < sizeLine then some (.nx (ρ.set i (some (.own (ds ++ [d]))))) else none
@[simp] theorem sApp_ap (i : Nat) (fz : List Nat) (A : EE) (ρ : Env) : sApp i fz A ρ = kAp (A (fzI ρ fz)) (ownAt (fzI ρ fz) i) i (fzI ρ fz) := rfl
@[simp] theorem kAp_v (d : D) (ds : List D) (i : Nat) (ρ : Env) : kAp (some (.v d)) (some ds) i ρ = if ds.length < sizeLine then some (.nx (ρ.set i (some (.own (ds ++ [d]))))) else none := rfl
@[simp] theorem kAp_own (es ds : List D) (i : Nat) (ρ : Env) : kAp (some (.own es)) (some ds) i ρ = if ds.length < sizeLine then some (.nx (ρ.set i (some (.own (ds ++ [.list es]))))) else none := rfl
@[simp] theorem isi_ii (n : Int) : isiR "int" (I n) = some (Bl true) := by kernel_rfl
@[simp] theorem isi_ib (n : Int) : isiR "bool" (I n) = some (Bl false) := by kernel_rfl
@[simp] theorem isi_is (n : Int) : isiR "str" (I n) = some (Bl false) := by kernel_rfl
@[simp] theorem isi_it (n : Int) : isiR "tuple" (I n) = some (Bl false) := by kernel_rfl
@[simp] theorem isi_bi (n : Bool) : isiR "int" (Bl n) = some (Bl true) := by kernel_rfl
@[simp] theorem isi_bb (n : Bool) : isiR "bool" (Bl n) = some (Bl true) := by kernel_rfl
@[simp] theorem isi_bt (n : Bool) : isiR "tuple" (Bl n) = some (Bl false) := by kernel_rfl
@[simp] theorem isi_ti (ds : List D) : isiR "int" (.v (.tuple ds)) = some (Bl false) := by kernel_rfl
@[simp] theorem isi_tb (ds : List D) : isiR "bool" (.v (.tuple ds)) = some (Bl false) := by kernel_rfl
@[simp] theorem isi_ts (ds : List D) : isiR "str" (.v (.tuple ds)) = some (Bl false) := by kernel_rfl
@[simp] theorem isi_tt (ds : List D) : isiR "tuple" (.v (.tuple ds)) = some (Bl true) := by kernel_rfl
@[simp] theorem isi_ni : isiR "int" Non = some (Bl false) := by kernel_rfl
@[simp] theorem isi_nb : isiR "bool" Non = some (Bl false) := by kernel_rfl
@[simp] theorem isi_ns : isiR "str" Non = some (Bl false) := by kernel_rfl
@[simp] theorem isi_nt : isiR "tuple" Non = some (Bl false) := by kernel_rfl
@[simp] theorem isi_ss (z : Str) : isiR "str" (.v (.str z)) = some (Bl true) := by kernel_rfl
@[simp] theorem isi_si (z : Str) : isiR "int" (.v (.str z)) = some (Bl false) := by kernel_rfl
@[simp] theorem isi_sb (z : Str) : isiR "bool" (.v (.str z)) = some (Bl false) := by kernel_rfl
@[simp] theorem isi_st (z : Str) : isiR "tuple" (.v (.str z)) = some (Bl false) := by kernel_rfl
def W_cell (gi gs : List R → Option R) : ES := (bS (sIf (tE (bind2 (vr 1) (caE (agE (vr 0) ag0) (oneR lenR)) (cmpR .Lt))) (bS (sRet [] (mP (bind2 (vr 0) (vr 1) ixR)))
    bE) bE)
    (bS (sRet [] (mP (bind2 (bind2 (kI 5) (vr 1) (binR .Mult)) (kI 3) (binR .Add))))
    bE))
def B_draws : ES := (bS (sIf (tAnd (tE (vr 3)) (tE (bind2 (vr 2) (kI 0) (cmpR .Gt)))) (bS (sApp 5 [] (bind2 (caE (agE (vr 2) ag0) (oneR intR)) (kI 5040) (binR .Mod)))
    (bS (sAsg [] (mP (bind2 (vr 2) (kI 5040) (binR .FloorDiv))) (st1 2))
    bE)) (bS (sAsg [] (mP (bind2 (caE (agE (bind2 (bind2 (bind2 (vr 4) (kI 48271) (binR .Mult)) (bind2 (bind2 (vr 6) (kI 1) (binR .Add)) (kI 69621) (binR .Mult)) (binR .Add)) (kI 11) (binR .Add)) ag0) (oneR intR)) (kI 2147483647) (binR .Mod))) (st1 7))
    (bS (sAsg [] (mP (bind2 (caE (agE (bind2 (bind2 (vr 7) (vr 7) (binR .Mult)) (bind2 (kI 40692) (bind2 (vr 6) (kI 3) (binR .Add)) (binR .Mult)) (binR .Add)) ag0) (oneR intR)) (kI 2147483399) (binR .Mod))) (st1 7))
    (bS (sApp 5 [] (bind2 (caE (agE (bind2 (vr 7) (kI 64) (binR .FloorDiv)) ag0) (oneR intR)) (kI 5040) (binR .Mod)))
    bE))))
    bE)
def W_draws (gi gs : List R → Option R) : ES := (bS (sAsg [] (mP (caE (agE (caE (agE (vr 0) ag0) (oneR intR)) ag0) (oneR absR))) (st1 2))
    (bS (sAsg [] (mP (bind2 (vr 2) (bind2 (kI 10) (kI 18) (binR .Pow)) (cmpR .GtE))) (st1 3))
    (bS (sAsg [2] (mP (vr 2)) (st1 4))
    (bS (sAsg [] (mP (lstE ag0)) (st1 5))
    (bS (sFor [] (iRng (agE (vr 1) ag0)) (b1 6) B_draws)
    (bS (sRetN 5)
    bE))))))
def W_isint (gi gs : List R → Option R) : ES := (bS (sRet [] (mP (vAnd (isE (vr 0) "int") (ntE (isE (vr 0) "bool")))))
    bE)
def W_is (gi gs : List R → Option R) : ES := (bS (sIf (tE (bind2 (vr 1) kN (cmpR .Is))) (bS (sRet [] (mP (bind2 (vr 0) kN (cmpR .Is))))
    bE) bE)
    (bS (sIf (tE (isE (vr 1) "bool")) (bS (sRet [] (mP (vAnd (isE (vr 0) "bool") (bind2 (vr 0) (vr 1) (cmpR .Eq)))))
    bE) bE)
    (bS (sIf (tE (isE (vr 1) "int")) (bS (sRet [] (mP (vAnd (caE (agE (vr 0) ag0) (gi)) (bind2 (vr 0) (vr 1) (cmpR .Eq)))))
    bE) bE)
    (bS (sIf (tE (isE (vr 1) "str")) (bS (sRet [] (mP (vAnd (isE (vr 0) "str") (bind2 (vr 0) (vr 1) (cmpR .Eq)))))
    bE) bE)
    (bS (sIf (tOr (tNot (tE (isE (vr 0) "tuple"))) (tE (bind2 (caE (agE (vr 0) ag0) (oneR lenR)) (caE (agE (vr 1) ag0) (oneR lenR)) (cmpR .NotEq)))) (bS (sRet [] (mP (kBo false)))
    bE) bE)
    (bS (sRet [] (mP (caE (agE (lcE (iRng (agE (caE (agE (vr 1) ag0) (oneR lenR)) ag0)) [2] (b1 2) fTrue (caE (agE (bind2 (vr 0) (vr 2) ixR) (agE (bind2 (vr 1) (vr 2) ixR) ag0)) (gs))) ag0) (oneR allLR))))
    bE))))))
theorem cell_ok (gi gs : List R → Option R) (ns : List Int) (k : Nat) : ∃ n : Int, fin (W_cell gi gs [some (.scr ns), some (I k)]) = some (I n) := by
  by_cases h : (k : Int) < (ns.length : Nat)
  · have h' : k < ns.length := by omega
    refine ⟨ns[k], ?_⟩
    have e : atI ns (k : Int) = some ns[k] := atI_some rfl (List.getElem?_eq_getElem h')
    simp [W_cell, h, e]
  · refine ⟨5 * k + 3, ?_⟩
    have e : mulR (I 5) (I k) = some (I (5 * k)) := mulR_ok (.inl (by omega))
    simp [W_cell, h, e]
theorem powR_ok {a b : Int} (h : CPow a b) : powR (I a) (I b) = some (I (a ^ b.toNat)) := if_pos h
theorem pow_18 : powR (I 10) (I 18) = some (I 1000000000000000000) := powR_ok ⟨by decide, by decide, by decide⟩
/-- numbers that were drawn -/
def Dr (ns : List Int) : Prop := ∀ x ∈ ns, 0 ≤ x ∧ x < 5040
theorem draws_ok (gi gs : List R → Option R) (c : Int) (n : Nat) (hn : n ≤ 1000) : ∃ ns : List Int, ns.length = n ∧ Dr ns ∧ fin (W_draws gi gs [some (I c), some (I n), none, none, none, none, none, none]) = some (.own (ns.map .int)) := by
  have e1 : powR (I 10) (I 18) = some (I 1000000000000000000) := pow_18
  have e2 : kRg (some [I (n : Int)]) = some (true, rngD 0 n) := by
    have := kRg_1 (n := (n : Int)) (by omega) (by omega)
    simpa using this
  have hs : sizeLine = 16777216 := by decide
  let P : Nat → Env → Prop := fun i ρ => ∃ (rest : Int) (dg : Bool) (seed : Int) (ns : List Int) (a b : Option R), ρ = [some (I c), some (I n), some (I rest), some (Bl dg), some (I seed), some (.own (ns.map .int)), a, b] ∧ 0 ≤ rest ∧ ns.length = i ∧ Dr ns
  have step : ∀ (i : Nat) (d : D) (ρ : Env), (rngD 0 n)[i]? = some d → P i ρ → ∃ ρ', stp (b1 6) B_draws d ρ = some (.nx ρ') ∧ P (i + 1) ρ' := by
    intro i d ρ hd hp
    obtain ⟨rest, dg, seed, ns, a, b', rfl, h0, hl, hd'⟩ := hp
    obtain ⟨rfl, hi⟩ := rngD_get hd
    have big : ¬ (16777216 ≤ ns.length) := by omega
    obtain ⟨z, hz, hz1⟩ : ∃ z : Int, (0 + (i : Nat) : Int) = z ∧ -(2 ^ 64) < z ∧ z + 3 < 2 ^ 64 ∧ 0 ≤ z := ⟨_, rfl, by omega⟩
    rw [hz]
    by_cases hc : dg = true ∧ 0 < rest
    · obtain ⟨rfl, hr⟩ := hc
      have m1 : modR (I rest) (I 5040) = some (I (rest % 5040)) := modR_ok (by omega)
      have m2 : divR (I rest) (I 5040) = some (I (rest / 5040)) := divR_ok ⟨by omega, by decide⟩
      refine ⟨[some (I c), some (I n), some (I (rest / 5040)), some (Bl true), some (I seed), some (.own ((ns ++ [rest % 5040]).map .int)), some (I z), b'], ?_, ⟨_, _, _, _, _, _, rfl, by omega, by simp [hl], ?_⟩⟩
      · simp [B_draws, hr, m1, m2, hs, hl, show i < 16777216 by omega]
      · intro x hx
        rcases List.mem_append.mp hx with hx | hx
        · exact hd' x hx
        · have : x = rest % 5040 := by simpa using hx
          omega
    · have q1 : mulR (I seed) (I 48271) = some (I (seed * 48271)) := mulR_ok (.inr (by omega))
      have q2 : mulR (I (z + 1)) (I 69621) = some (I ((z + 1) * 69621)) := mulR_ok (.inr (by omega))
      have q3 : ∀ u : Int, modR (I u) (I 2147483647) = some (I (u % 2147483647)) := fun u => modR_ok (by omega)
      have q4 : ∀ u : Int, modR (I u) (I 2147483399) = some (I (u % 2147483399)) := fun u => modR_ok (by omega)
      have q5 : ∀ u : Int, mulR (I (u % 2147483647)) (I (u % 2147483647)) = some (I ((u % 2147483647) * (u % 2147483647))) := fun u => mulR_ok (.inr (by omega))
      have q6 : mulR (I 40692) (I (z + 3)) = some (I (40692 * (z + 3))) := mulR_ok (.inl (by omega))
      have q7 : ∀ u : Int, divR (I u) (I 64) = some (I (u / 64)) := fun u => divR_ok ⟨by omega, by decide⟩
      have q8 : ∀ u : Int, modR (I u) (I 5040) = some (I (u % 5040)) := fun u => modR_ok (by omega)
      obtain ⟨X, hX⟩ : ∃ X : Int, X = (seed * 48271 + (z + 1) * 69621 + 11) % 2147483647 := ⟨_, rfl⟩
      obtain ⟨Y, hY⟩ : ∃ Y : Int, Y = (X * X + 40692 * (z + 3)) % 2147483399 := ⟨_, rfl⟩
      have key : stp (b1 6) B_draws (.int z) [some (I c), some (I n), some (I rest), some (Bl dg), some (I seed), some (.own (ns.map .int)), a, b'] = some (.nx [some (I c), some (I n), some (I rest), some (Bl dg), some (I seed), some (.own ((ns ++ [Y / 64 % 5040]).map .int)), some (I z), some (I Y)]) := by
        cases dg with
        | false => simp [B_draws, q1, q2, q3, q4, q5, q6, q7, q8, hs, hl, show i < 16777216 by omega, hX, hY]
        | true =>
          have hr : ¬ (0 < rest) := fun h => hc ⟨rfl, h⟩
          simp [B_draws, hr, q1, q2, q3, q4, q5, q6, q7, q8, hs, hl, show i < 16777216 by omega, hX, hY]
      refine ⟨_, key, ⟨_, _, _, _, _, _, rfl, h0, by simp [hl], ?_⟩⟩
      intro x hx
      rcases List.mem_append.mp hx with hx | hx
      · exact hd' x hx
      · have : x = Y / 64 % 5040 := by simpa using hx
        omega
  have h0 : P 0 [some (I c), some (I n), some (I (if c < 0 then -c else c)), some (Bl (decide (1000000000000000000 ≤ (if c < 0 then -c else c)))), some (I (if c < 0 then -c else c)), some (.own []), none, none] := ⟨_, _, _, [], _, _, rfl, by split <;> omega, rfl, fun x hx => by cases hx⟩
  obtain ⟨ρ', e3, ⟨rest, dg, seed, ns, a, b, rfl, _, hl, hd⟩⟩ := forL_inv P h0 step
  refine ⟨ns, by simpa using hl, hd, ?_⟩
  simp [W_draws, e1, e2]
  rw [e3]
  rfl
theorem isint_ok (gi gs : List R → Option R) (n : Int) : fin (W_isint gi gs [some (I n)]) = some (Bl true) := by
  simp [W_isint]
theorem is_none (gi gs : List R → Option R) : fin (W_is gi gs [some Non, some Non, none]) = some (Bl true) := by
  simp [W_is]
theorem is_bool (gi gs : List R → Option R) (b : Bool) : fin (W_is gi gs [some (Bl b), some (Bl b), none]) = some (Bl true) := by
  have e : cmpR .Eq (Bl b) (Bl b) = some (Bl true) := by cases b <;> kernel_rfl
  simp [W_is, e]
theorem is_int (gi gs : List R → Option R) (n : Int) (h : gi [I n] = some (Bl true)) : fin (W_is gi gs [some (I n), some (I n), none]) = some (Bl true) := by
  simp [W_is, h]
theorem bolsOf_map : ∀ bs : List Bool, bolsOf (bs.map PyData.bool) = some bs
  | [] => rfl
  | b :: bs => by simp [bolsOf, bolsOf_map bs]
@[simp] theorem allLR_b (bs : List Bool) : allLR (.v (.list (bs.map .bool))) = some (Bl (bs.all id)) := by
  show ((bolsOf (bs.map PyData.bool)).bind _) = _
  rw [bolsOf_map]
  rfl
@[simp] theorem anyLR_b (bs : List Bool) : anyLR (.v (.list (bs.map .bool))) = some (Bl (bs.any id)) := by
  show ((bolsOf (bs.map PyData.bool)).bind _) = _
  rw [bolsOf_map]
  rfl
theorem rngD_map (lo : Int) (n : Nat) : rngD lo n = (List.range n).map fun i => PyData.int (lo + (i : Nat)) := rfl
theorem is_tup (gi gs : List R → Option R) (ds : List D) (hl : ds.length ≤ 16777216) (h : ∀ e ∈ ds, gs [.v e, .v e] = some (Bl true)) : fin (W_is gi gs [some (.v (.tuple ds)), some (.v (.tuple ds)), none]) = some (Bl true) := by
  have e2 : kRg (some [I (ds.length : Int)]) = some (true, rngD 0 ds.length) := by
    have := kRg_1 (n := (ds.length : Int)) (by omega) (by omega)
    simpa using this
  have e3 : ∀ (E : EE), E = (caE (agE (bind2 (vr 0) (vr 2) ixR) (agE (bind2 (vr 1) (vr 2) ixR) ag0)) gs) → cmp (b1 2) fTrue E [some (.v (.tuple ds)), some (.v (.tuple ds)), none] (rngD 0 ds.length) = some (.own ((List.range ds.length).map fun _ => .bool true)) := by
    intro E hE
    rw [rngD_map]
    refine cmp_map _ _ _ fun i hi => ⟨_, rfl, Bl true, ?_, rfl⟩
    rw [List.mem_range] at hi
    have e4 : atI ds (0 + (i : Nat) : Int) = some ds[i] := atI_some (by omega) (List.getElem?_eq_getElem hi)
    subst hE
    simp only [caE_ap, agE_ap, bind2_ap, vr_ap, List.set_cons_succ, List.set_cons_zero, getE_s, getE_z, kV_v, k2_some, ixR_tup, e4, Option.map_some, ag0_ap, kAg_v, kC_some]
    exact h _ (List.getElem_mem hi)
  have e5 : ((List.range ds.length).map fun _ => PyData.bool true) = ((List.range ds.length).map fun _ => true).map PyData.bool := by simp
  have e6 := e3 _ rfl
  rw [e5] at e6
  have e7 : isNone (.v (.tuple ds)) = false := rfl
  simp [W_is, e2, -List.map_map]
  rw [e6]
  simp [-List.map_map]
/-- data of ints, none, bools, tuples, n deep -/
def gdD : Nat → D → Bool
  | _, .int _ => true
  | _, .none => true
  | _, .bool _ => true
  | n + 1, .tuple ds => ds.all (gdD n) && decide (ds.length ≤ 16777216)
  | _, _ => false
/-- the judge says yes -/
theorem is_ok {gi : Nat → List R → Option R} {gs : Nat → List R → Option R} (hg : ∀ n rs, rs.all (fun r => !isOwn r) = true → gs (n + 1) rs = fin (W_is (gi n) (gs n) (rs.map some ++ List.replicate (3 - rs.length) none)))
    (hi : ∀ n m, gi (n + 1) [I m] = some (Bl true)) : ∀ (n : Nat) (m : Nat) (d : D), gdD n d = true → gs (n + m + 2) [.v d, .v d] = some (Bl true)
  | n, m, .int i, _ => by
    rw [hg _ _ rfl]
    exact is_int _ _ _ (hi _ _)
  | n, m, .none, _ => by
    rw [hg _ _ rfl]
    exact is_none _ _
  | n, m, .bool b, _ => by
    rw [hg _ _ rfl]
    exact is_bool _ _ _
  | n + 1, m, .tuple ds, h => by
    rw [hg _ _ rfl]
    simp only [gdD, Bool.and_eq_true, decide_eq_true_eq, List.all_eq_true] at h
    refine is_tup _ _ _ h.2 fun e he => ?_
    have := is_ok hg hi n m e (h.1 e he)
    rw [show n + 1 + m + 1 = n + m + 2 by omega]
    exact this
  | 0, m, .tuple ds, h => by cases h
  | n, m, .str s, h => by cases n <;> cases h
  | n, m, .list s, h => by cases n <;> cases h
  | n, m, .dict s, h => by cases n <;> cases h
end Kd

/-! Kd19: tuples of ints; sorted; ==, in. -/
namespace Kd
open PySem PySem.Spec PyProof.Rows L2
/-- a tuple of ints -/
def tI (ns : List Int) : D := .tuple (ns.map .int)
theorem alikeAll_ints : ∀ a b : List Int, PySem.W.alikeAll (a.map .int) (b.map .int) = true
  | [], _ => by simp only [List.map_nil, PySem.W.alikeAll]
  | _ :: _, [] => by simp only [List.map_nil, List.map_cons, PySem.W.alikeAll]
  | x :: a, y :: b => by simp only [List.map_cons, PySem.W.alikeAll, PySem.W.alike, Bool.true_and]; exact alikeAll_ints a b
@[simp] theorem alike_tI (a b : List Int) : PySem.W.alike (tI a) (tI b) = true := by
  simp only [tI, PySem.W.alike]
  exact alikeAll_ints a b
@[simp] theorem alike_int (a b : Int) : PySem.W.alike (.int a) (.int b) = true := by simp only [PySem.W.alike]
theorem alike_pair {x x' y y' : D} (h : PySem.W.alike x x' = true) (h' : PySem.W.alike y y' = true) : PySem.W.alike (.tuple [x, y]) (.tuple [x', y']) = true := by
  simp only [PySem.W.alike, PySem.W.alikeAll, h, h', Bool.and_self]
/-- data that may be compared: how deep -/
def okD (n : Nat) (d : D) : Prop := d.canLay0 = true ∧ d.depth ≤ n
theorem okD.mono {n m : Nat} {d : D} (h : okD n d) (l : n ≤ m) : okD m d := ⟨h.1, Nat.le_trans h.2 l⟩
theorem okD_int (n : Nat) (a : Int) : okD n (.int a) := ⟨by simp only [PyData.canLay0], by simp only [PyData.depth]; omega⟩
theorem okD_non (n : Nat) : okD n .none := ⟨by simp only [PyData.canLay0], by simp only [PyData.depth]; omega⟩
theorem okD_bool (n : Nat) (a : Bool) : okD n (.bool a) := ⟨by simp only [PyData.canLay0], by simp only [PyData.depth]; omega⟩
theorem okD_all {n : Nat} : ∀ {ds : List D}, (∀ d ∈ ds, okD n d) → PyData.canLayAll0 ds = true ∧ PyData.depthAll ds ≤ n
  | [], _ => ⟨by simp only [PyData.canLayAll0], by simp only [PyData.depthAll]; omega⟩
  | d :: ds, h => by
    obtain ⟨a, b⟩ := okD_all (n := n) (ds := ds) fun e he => h e (List.mem_cons_of_mem _ he)
    obtain ⟨p, q⟩ := h d List.mem_cons_self
    exact ⟨by simp only [PyData.canLayAll0, a, p, Bool.and_self], by simp only [PyData.depthAll]; omega⟩
theorem okD_tup {n : Nat} {ds : List D} (h : ∀ d ∈ ds, okD n d) : okD (n + 1) (.tuple ds) := by
  obtain ⟨a, b⟩ := okD_all h
  exact ⟨by simp only [PyData.canLay0, a], by simp only [PyData.depth]; omega⟩
theorem okD_list {n : Nat} {ds : List D} (h : ∀ d ∈ ds, okD n d) : okD (n + 1) (.list ds) := by
  obtain ⟨a, b⟩ := okD_all h
  exact ⟨by simp only [PyData.canLay0, a], by simp only [PyData.depth]; omega⟩
theorem okD_tI (n : Nat) (ns : List Int) : okD (n + 1) (tI ns) := okD_tup fun d h => by
  obtain ⟨x, _, rfl⟩ := List.mem_map.mp h
  exact okD_int n x
theorem okD.sh {n : Nat} {d : D} (h : okD n d) (l : n ≤ 64 := by omega) : shD d = true := by
  show (d.canLay0 && decide (d.depth ≤ 64)) = true
  rw [h.1, decide_eq_true (Nat.le_trans h.2 l)]
  rfl
mutual
theorem eqv_refl : ∀ d : D, d.canLay0 = true → PyData.eqv d d = true
  | .none, _ => by simp only [PyData.eqv]
  | .bool b, _ => by simp only [PyData.eqv, beq_self_eq_true]
  | .int b, _ => by simp only [PyData.eqv, beq_self_eq_true]
  | .str b, _ => by simp only [PyData.eqv, beq_self_eq_true]
  | .list ds, h => by simp only [PyData.eqv]; exact eqvAll_refl ds (by simpa only [PyData.canLay0] using h)
  | .tuple ds, h => by simp only [PyData.eqv]; exact eqvAll_refl ds (by simpa only [PyData.canLay0] using h)
  | .dict ds, h => by simp [PyData.canLay0] at h
theorem eqvAll_refl : ∀ ds : List D, PyData.canLayAll0 ds = true → PyData.eqvAll ds ds = true
  | [], _ => by simp only [PyData.eqvAll]
  | d :: ds, h => by
    simp only [PyData.canLayAll0, Bool.and_eq_true] at h
    simp only [PyData.eqvAll, eqv_refl d h.1, eqvAll_refl ds h.2, Bool.and_self]
end
theorem eqvAll_ints : ∀ a b : List Int, PyData.eqvAll (a.map .int) (b.map .int) = decide (a = b)
  | [], [] => by simp [PyData.eqvAll]
  | [], _ :: _ => by simp [PyData.eqvAll]
  | _ :: _, [] => by simp [PyData.eqvAll]
  | x :: a, y :: b => by
    simp only [List.map_cons, PyData.eqvAll, PyData.eqv, eqvAll_ints a b, beq_int, List.cons.injEq, Bool.decide_and]
theorem eqv_tI (a b : List Int) : PyData.eqv (tI a) (tI b) = decide (a = b) := by
  simp only [tI, PyData.eqv]
  exact eqvAll_ints a b
theorem eqv_int (a b : Int) : PyData.eqv (.int a) (.int b) = decide (a = b) := by
  simp only [PyData.eqv, beq_int]
theorem eq_ok {x y : R} {a b : D} (hx : toData x = some a) (hy : toData y = some b) {n : Nat} (ha : okD n a) (hb : okD n b) (hn : n ≤ 64 := by omega) : cmpR .Eq x y = some (Bl (PyData.eqv a b)) := by
  show ((toData x).bind _) = _
  rw [hx]
  show ((toData y).bind _) = _
  rw [hy]
  show (if _ then _ else _) = _
  rw [if_pos ⟨ha.sh hn, hb.sh hn⟩]
theorem ne_ok {x y : R} {a b : D} (hx : toData x = some a) (hy : toData y = some b) {n : Nat} (ha : okD n a) (hb : okD n b) (hn : n ≤ 64 := by omega) : cmpR .NotEq x y = some (Bl (!PyData.eqv a b)) := by
  show ((toData x).bind _) = _
  rw [hx]
  show ((toData y).bind _) = _
  rw [hy]
  show (if _ then _ else _) = _
  rw [if_pos ⟨ha.sh hn, hb.sh hn⟩]
theorem in_ok {x y : R} {a : D} {b : Bool} {ds : List D} (hx : toData x = some a) (hy : toSeq y = some (b, ds)) {n : Nat} (ha : okD n a) (hb : ∀ d ∈ ds, okD n d) (hn : n ≤ 63 := by omega) : cmpR .In x y = some (Bl (hasD a ds)) := by
  show ((toData x).bind _) = _
  rw [hx]
  show ((toSeq y).bind _) = _
  rw [hy]
  show (if _ then _ else _) = _
  rw [if_pos ⟨ha.sh (by omega), (okD_list hb).sh (by omega)⟩]
theorem nin_ok {x y : R} {a : D} {b : Bool} {ds : List D} (hx : toData x = some a) (hy : toSeq y = some (b, ds)) {n : Nat} (ha : okD n a) (hb : ∀ d ∈ ds, okD n d) (hn : n ≤ 63 := by omega) : cmpR .NotIn x y = some (Bl (!hasD a ds)) := by
  show ((toData x).bind _) = _
  rw [hx]
  show ((toSeq y).bind _) = _
  rw [hy]
  show (if _ then _ else _) = _
  rw [if_pos ⟨ha.sh (by omega), (okD_list hb).sh (by omega)⟩]
theorem hasD_ints (a : Int) (ns : List Int) : hasD (.int a) (ns.map .int) = decide (a ∈ ns) := by
  unfold hasD
  induction ns with
  | nil => simp
  | cons x ns ih =>
    rw [List.map_cons, List.any_cons, ih, eqv_int]
    by_cases h : x = a
    · subst h; simp
    · simp [h, Ne.symm h, eq_comm]
@[simp] theorem in_ints (a : Int) (ns : List Int) : cmpR .In (I a) (.v (tI ns)) = some (Bl (decide (a ∈ ns))) := by
  rw [in_ok (ds := ns.map .int) (b := true) rfl rfl (okD_int 0 a) (fun d h => by obtain ⟨x, _, rfl⟩ := List.mem_map.mp h; exact okD_int 0 x), hasD_ints]
@[simp] theorem nin_ints (a : Int) (ns : List Int) : cmpR .NotIn (I a) (.v (tI ns)) = some (Bl (!decide (a ∈ ns))) := by
  rw [nin_ok (ds := ns.map .int) (b := true) rfl rfl (okD_int 0 a) (fun d h => by obtain ⟨x, _, rfl⟩ := List.mem_map.mp h; exact okD_int 0 x), hasD_ints]
/-! ### sorted -/
theorem alikeB_of {ds : List D} (h : ∀ d ∈ ds, ∀ e ∈ ds, PySem.W.alike d e = true) : alikeB ds = true := by
  unfold alikeB
  rw [List.all_eq_true]
  exact fun d hd => List.all_eq_true.mpr fun e he => h d hd e he
def strictB : List D → Bool
  | [] => true
  | [_] => true
  | a :: b :: r => PySem.W.dataLt a b && strictB (b :: r)
theorem dataLt_trans {a b c : D} (h1 : PySem.W.dataLt a b = true) (h2 : PySem.W.dataLt b c = true) : PySem.W.dataLt a c = true := lex_trans _ _ _ h1 h2
theorem strictB_pw : ∀ {ds : List D}, strictB ds = true → ds.Pairwise fun a b => PySem.W.dataLt a b = true
  | [], _ => .nil
  | [a], _ => List.pairwise_singleton ..
  | a :: b :: r, h => by
    have h' : (PySem.W.dataLt a b && strictB (b :: r)) = true := h
    rw [Bool.and_eq_true] at h'
    have ih := strictB_pw h'.2
    refine List.pairwise_cons.mpr ⟨fun c hc => ?_, ih⟩
    rcases List.mem_cons.mp hc with rfl | hc
    · exact h'.1
    · exact dataLt_trans h'.1 ((List.pairwise_cons.mp ih).1 c hc)
theorem srtD_eq {ds out : List D} (hp : out.Perm ds) (hs : out.Pairwise fun a b => PySem.W.dataLt a b = true) : srtD false ds = out := by
  have tl := PySem.W.sortLe_total (α := D) (PyProof.Rows.listOrd PyProof.Rows.itemOrd) false fun b => PySem.W.keyToks b
  have e : ∀ a b : D, PySem.W.dataLe false id a b = !PySem.W.dataLt b a := fun a b => rfl
  refine List.Perm.eq_of_pairwise (le := fun a b => PySem.W.dataLe false id a b = true) (fun a b ha hb h1 h2 => ?_) (PySem.W.sort_pairwise tl ds) ?_ ((List.mergeSort_perm _ _).trans hp.symm)
  · have ha' : a ∈ out := hp.symm.subset ((List.mergeSort_perm _ _).subset ha)
    rw [e] at h1 h2
    simp only [Bool.not_eq_true'] at h1 h2
    have tr : ∀ x ∈ out, ∀ y ∈ out, x = y ∨ PySem.W.dataLt x y = true ∨ PySem.W.dataLt y x = true := fun x hx y hy => by
      clear h1 h2 ha' ha hb hp
      induction hs with
      | nil => cases hx
      | cons h t ih =>
        rcases List.mem_cons.mp hx with ex | hx'
        · rcases List.mem_cons.mp hy with ey | hy'
          · exact .inl (ex.trans ey.symm)
          · exact .inr (.inl (by rw [ex]; exact h y hy'))
        · rcases List.mem_cons.mp hy with ey | hy'
          · exact .inr (.inr (by rw [ey]; exact h x hx'))
          · exact ih hx' hy'
    rcases tr a ha' b hb with h | h | h
    · exact h
    · rw [h] at h2; cases h2
    · rw [h] at h1; cases h1
  · refine hs.imp fun {a b} h => ?_
    rw [e]
    cases q : PySem.W.dataLt b a with
    | false => rfl
    | true =>
      have := dataLt_trans h q
      rw [show PySem.W.dataLt a a = false from lex_irrefl _] at this
      cases this
theorem sort_ok {x : R} {ds out : List D} (hx : toSeq x = some (false, ds)) (ha : ∀ d ∈ ds, ∀ e ∈ ds, PySem.W.alike d e = true) (hs : 2 ≤ ds.length → sortableB ds = true) {n : Nat} (hd : ∀ d ∈ ds, okD n d) (hn : n ≤ 63) (hp : out.Perm ds) (hw : out.Pairwise fun a b => PySem.W.dataLt a b = true) : sortR false x = some (.own out) := by
  show ((toSeq x).bind _) = _
  rw [hx, Option.bind_some]
  by_cases hl : ds.length < 2
  · rw [if_pos ⟨rfl, rfl, hl⟩, short_perm hl hp]
  · rw [if_neg fun h => hl h.2.2]
    show ((toSeq x).bind _) = _
    rw [hx, Option.bind_some, if_pos ⟨rfl, alikeB_of ha, hs (by omega), (okD_list hd).sh (by omega)⟩, srtD_eq hp hw]
/-- of ints -/
theorem ints_pw {ns : List Int} (h : ns.Pairwise (· < ·)) : (ns.map PyData.int).Pairwise fun a b => PySem.W.dataLt a b = true := by
  rw [List.pairwise_map]
  exact h.imp fun {a b} h => by rw [PySem.W.dataLt_int]; exact decide_eq_true h
theorem sort_ints {x : R} {ns out : List Int} (hx : toSeq x = some (false, ns.map .int)) (hp : out.Perm ns) (hw : out.Pairwise (· < ·)) : sortR false x = some (.own (out.map .int)) := by
  refine sort_ok hx (fun d hd e he => ?_) ?_ (n := 0) (fun d hd => ?_) (by omega) (hp.map _) (ints_pw hw)
  · obtain ⟨a, _, rfl⟩ := List.mem_map.mp hd
    obtain ⟨b, _, rfl⟩ := List.mem_map.mp he
    exact alike_int a b
  · intro _
    unfold sortableB
    rw [Bool.or_eq_true]
    right
    rw [List.all_eq_true]
    intro d hd
    obtain ⟨a, _, rfl⟩ := List.mem_map.mp hd
    rfl
  · obtain ⟨a, _, rfl⟩ := List.mem_map.mp hd
    exact okD_int 0 a
end Kd

/-! Kd20: ranges as values; all sets of a size. -/
namespace Kd
open PySem PySem.Spec PyProof.Rows L2
def rg (k : Nat) : List Int := (List.range k).map fun i : Nat => (i : Int)
theorem rngD_rg (k : Nat) : rngD 0 k = (rg k).map PyData.int := by
  unfold rngD rg
  rw [List.map_map]
  refine List.map_congr_left fun i _ => ?_
  simp
@[simp] theorem rg_len (k : Nat) : (rg k).length = k := by simp [rg]
def kRT (o : Option (Int × Int)) : Option R := o.bind fun s => some (.v (.tuple (rngD s.1 (s.2 - s.1).toNat)))
def kRL (o : Option (Int × Int)) : Option R := o.bind fun s => some (.own (rngD s.1 (s.2 - s.1).toNat))
@[simp] theorem rgT_ap (r : Env → Option (Int × Int)) (ρ : Env) : rgT r ρ = kRT (r ρ) := rfl
@[simp] theorem rgL_ap (r : Env → Option (Int × Int)) (ρ : Env) : rgL r ρ = kRL (r ρ) := rfl
def kR1 (o : Option R) : Option (Int × Int) := (o.bind toInt).bind fun j => if RgOk 0 j then some (0, j) else none
@[simp] theorem r1E_ap (A : EE) (ρ : Env) : r1E A ρ = kR1 (A ρ) := rfl
theorem rgOk_nat {k : Nat} (h : k ≤ 16777216) : RgOk 0 (k : Int) := RgOk.of_le (by omega) (by omega) (by omega) (by omega)
theorem kR1_of {z : Int} (h1 : RgOk 0 z) : kR1 (some (I z)) = some (0, z) := if_pos h1
theorem kR1_ok {k : Nat} (h : k ≤ 16777216) : kR1 (some (I k)) = some (0, (k : Int)) := kR1_of (rgOk_nat h)
theorem kRT_ok {k : Nat} (h : k ≤ 16777216) : kRT (kR1 (some (I k))) = some (.v (tI (rg k))) := by
  rw [kR1_ok h]
  show some (R.v (.tuple (rngD 0 ((k : Int) - 0).toNat))) = _
  rw [show ((k : Int) - 0).toNat = k by omega, rngD_rg]
  rfl
theorem kRL_ok {k : Nat} (h : k ≤ 16777216) : kRL (kR1 (some (I k))) = some (.own ((rg k).map .int)) := by
  rw [kR1_ok h]
  show some (R.own (rngD 0 ((k : Int) - 0).toNat)) = _
  rw [show ((k : Int) - 0).toNat = k by omega, rngD_rg]
theorem kRg_nat {n : Nat} (h : n ≤ 16777216) : kRg (some [I (n : Int)]) = some (true, rngD 0 n) := by
  have := kRg_1 (n := (n : Int)) (by omega) (by omega)
  simpa using this
theorem sl_val : sizeLine = 16777216 := by decide
@[simp] theorem tI_def (ns : List Int) : PyData.tuple (ns.map .int) = tI ns := rfl
theorem add_tI (a b : List Int) (h : a.length + b.length ≤ 16777216) : addR (.v (tI a)) (.v (tI b)) = some (.v (tI (a ++ b))) := by
  show (if (a.map PyData.int).length + (b.map PyData.int).length ≤ sizeLine then some (R.v (.tuple (a.map PyData.int ++ b.map PyData.int))) else none) = _
  rw [if_pos (by rw [sl_val]; simpa using h), ← List.map_append]
  rfl
@[simp] theorem lenR_tI (a : List Int) : lenR (.v (tI a)) = some (I a.length) := by
  show some (I ((a.map PyData.int).length : Nat)) = _
  rw [List.length_map]
/-! all sets, the short ones ahead -/
def fs : Nat → List (List Int)
  | 0 => [[]]
  | n + 1 => fs n ++ (fs n).map fun t => t ++ [(n : Int)]
def lexB : List Int → List Int → Bool
  | [], _ => true
  | _ :: _, [] => false
  | x :: a, y :: b => if x = y then lexB a b else decide (x < y)
def setLe (a b : List Int) : Bool := decide (a.length < b.length) || (decide (a.length = b.length) && lexB a b)
def insS (a : List Int) : List (List Int) → List (List Int)
  | [] => [a]
  | b :: r => if setLe a b = true then a :: b :: r else b :: insS a r
def sets (n : Nat) : List (List Int) := (fs n).foldr insS []
def pS (t : List Int) : D := .tuple [.int t.length, tI t]
def setsB (n : Nat) : Bool := (sets n).isPerm (fs n) && strictB ((sets n).map pS)
theorem sets_all : ∀ n : Nat, n ≤ 7 → setsB n = true := by decide +kernel
theorem fs_short : ∀ (n : Nat), ∀ t ∈ fs n, t.length ≤ n
  | 0, t, h => by simp [fs] at h; simp [h]
  | n + 1, t, h => by
    rcases List.mem_append.mp h with h | h
    · exact Nat.le_succ_of_le (fs_short n t h)
    · obtain ⟨s, hs, rfl⟩ := List.mem_map.mp h
      have := fs_short n s hs
      simp
      omega
theorem fs_len : ∀ n : Nat, (fs n).length = 2 ^ n
  | 0 => rfl
  | n + 1 => by simp [fs, fs_len n]; omega
def B_sets : ES := (bS (sAsg [] (mP (bind2 (vr 1) (lcE (iSeq (vr 1)) [4] (b1 4) fTrue (bind2 (vr 4) (tupE (agE (vr 2) ag0)) (binR .Add))) (binR .Add))) (st1 1))
    bE)
def W_sets : ES := (bS (sAsg [] (mP (lstE (agE (tupE ag0) ag0))) (st1 1))
    (bS (sFor [] (iRng (agE (vr 0) ag0)) (b1 2) B_sets)
    (bS (sRet [] (mP (lcE (iSeq (caE (agE (lcE (iSeq (vr 1)) [4] (b1 4) fTrue (tupE (agE (caE (agE (vr 4) ag0) (oneR lenR)) (agE (vr 4) ag0)))) ag0) (oneR (sortR false)))) [3, 4] (bT 2 (bC (b1 3) (bC (b1 4) bN))) fTrue (vr 4))))
    bE)))
theorem tup1 (n : Int) : kTu (some [I n]) = some (.v (tI [n])) := rfl
theorem sets_ok (n : Nat) (hn : n ≤ 7) : fin (W_sets [some (I n), none, none, none, none]) = some (.own ((sets n).map tI)) := by
  have h := forL_inv (step := stp (b1 2) B_sets) (ds := rngD 0 n) (fun i ρ => ∃ o, ρ = [some (I n), some (.own ((fs i).map tI)), o, none, none]) (ρ := [some (I n), some (.own [.tuple []]), none, none, none]) ⟨none, rfl⟩ (by
    rintro i d ρ hd ⟨o, rfl⟩
    obtain ⟨rfl, hi⟩ := rngD_get hd
    refine ⟨_, ?_, ⟨some (I (i : Nat)), rfl⟩⟩
    have e1 := cmp_map (b := b1 4) (E := bind2 (vr 4) (tupE (agE (vr 2) ag0)) (binR .Add)) (ρ := [some (I n), some (.own ((fs i).map tI)), some (I (i : Nat)), none, none]) tI (fun t => tI (t ++ [(i : Int)])) (fs i) (by
      intro t ht
      refine ⟨_, rfl, .v (tI (t ++ [(i : Int)])), ?_, rfl⟩
      have := fs_short i t ht
      have e2 := add_tI t [(i : Int)] (by simp; omega)
      simp only [bind2_ap, vr_ap, List.set_cons_succ, List.set_cons_zero, getE_s, getE_z, kV_v, tupE_ap, agE_ap, ag0_ap, kAg_v, tup1, k2_some, binR_add, e2])
    have e3 : ((fs i).map tI).length + ((fs i).map fun t => tI (t ++ [(i : Int)])).length ≤ sizeLine := by
      rw [List.length_map, List.length_map, fs_len, sl_val]
      have : 2 ^ i ≤ 2 ^ 7 := Nat.pow_le_pow_right (by omega) (by omega)
      omega
    rw [Int.zero_add]
    simp only [B_sets, stp_ap, b1_ap, kB1_some, List.set_cons_succ, List.set_cons_zero, bS_ap, sAsg_ap, fzI_nil, mP_ap, bind2_ap, vr_ap, getE_s, getE_z, kV_own, lcE_ap, iSeq_ap, kIt_some, seqI_bor, wipeE_cons, wipeE_nil, kLc_some, e1, k2_some, binR_add, addR_bo, e3, if_true, kP_some, kAs_some, st1_own, Option.map_some, kB_nx, bE_ap]
    rw [fs, List.map_append, List.map_map]
    rfl)
  obtain ⟨ρ', e, o, rfl⟩ := h
  rw [rngD_len] at e
  have hB := sets_all n hn
  unfold setsB at hB
  rw [Bool.and_eq_true, List.isPerm_iff] at hB
  have c1 := cmp_map (b := b1 4) (E := tupE (agE (caE (agE (vr 4) ag0) (oneR lenR)) (agE (vr 4) ag0))) (ρ := [some (I n), some (.own ((fs n).map tI)), o, none, none]) tI pS (fs n) (by
    intro t ht
    refine ⟨_, rfl, .v (pS t), ?_, rfl⟩
    simp only [vr_ap, List.set_cons_succ, List.set_cons_zero, getE_s, getE_z, kV_v, tupE_ap, agE_ap, caE_ap, ag0_ap, kAg_v, kC_some, oneR_1, lenR_tI, kTu_2, pS])
  have so : sortR false (.v (.list ((fs n).map pS))) = some (.own ((sets n).map pS)) := by
    refine sort_ok rfl (fun d hd e he => ?_) ?_ (n := 2) (fun d hd => ?_) (by omega) (hB.1.map _) (strictB_pw hB.2)
    · obtain ⟨a, _, rfl⟩ := List.mem_map.mp hd
      obtain ⟨b, _, rfl⟩ := List.mem_map.mp he
      exact alike_pair (alike_int _ _) (alike_tI _ _)
    · intro _
      unfold sortableB
      rw [Bool.or_eq_true]
      left
      rw [List.all_eq_true]
      intro d hd
      obtain ⟨a, _, rfl⟩ := List.mem_map.mp hd
      rfl
    · obtain ⟨a, _, rfl⟩ := List.mem_map.mp hd
      refine okD_tup fun d hd => ?_
      rcases List.mem_cons.mp hd with rfl | hd
      · exact okD_int 1 _
      · rcases List.mem_cons.mp hd with rfl | hd
        · exact okD_tI 0 a
        · cases hd
  have c2 := cmp_map (b := bT 2 (bC (b1 3) (bC (b1 4) bN))) (E := vr 4) (ρ := [some (I n), some (.own ((fs n).map tI)), o, none, none]) pS tI (sets n) (by
    intro t ht
    refine ⟨_, rfl, .v (tI t), ?_, rfl⟩
    simp only [vr_ap, List.set_cons_succ, List.set_cons_zero, getE_s, getE_z, kV_v])
  have e2 := kRg_nat (n := n) (by omega)
  simp only [W_sets, bS_ap, sAsg_ap, fzI_nil, mP_ap, lstE_ap, agE_ap, tupE_ap, ag0_ap, kTu_0, kAg_v, kLs_1, kP_some, kAs_some, st1_own, List.set_cons_succ, List.set_cons_zero, Option.map_some, kB_nx, sFor_ap, iRng_ap, vr_ap, getE_z, getE_s, kV_v, e2, kF_some, e, sRet_ap, lcE_ap, iSeq_ap, caE_ap, kV_own, kIt_some, seqI_bor, wipeE_cons, wipeE_nil, kLc_some, c1, kAg_own, kC_some, oneR_1, so, seqI_own, c2, kR_own, kB_ret, fin_ret]
end Kd

namespace Kd
open PySem PySem.Spec PyProof.Rows L2
abbrev top (i : Nat) : Stmt := PySem.Challenge.pw_kindhall_k79_whole_exchange_rows_and_sea.main.body.getD i (.Pass ⟨0, 0, 0, 0⟩)
abbrev d_ways_to_take : DD := ⟨top 1, "ways_to_take", ["n", "k", "number", "step"], ["n", "k"]⟩
abbrev d_exchange_row : DD := ⟨top 2, "exchange_row", ["n", "k", "behind", "things"], ["n", "k"]⟩
abbrev d_place_in_row : DD := ⟨top 3, "place_in_row", ["n", "things", "k"], ["n", "things"]⟩
abbrev d_things_at : DD := ⟨top 4, "things_at", ["n", "k", "at"], ["n", "k", "at"]⟩
abbrev d_seat_of : DD := ⟨top 5, "seat_of", ["things", "at", "thing"], ["things"]⟩
abbrev d_set_at_seat : DD := ⟨top 6, "set_at_seat", ["k", "seat", "thing"], ["k", "seat"]⟩
abbrev d__law_cell : DD := ⟨top 8, "_law_cell", ["script", "k"], ["script", "k"]⟩
abbrev d__law_draws : DD := ⟨top 9, "_law_draws", ["cell", "count", "rest", "digits", "seed", "draws", "k", "mixed"], ["cell", "count"]⟩
abbrev d__law_is_integer : DD := ⟨top 10, "_law_is_integer", ["value"], ["value"]⟩
abbrev d__law_is : DD := ⟨top 11, "_law_is", ["value", "due", "at"], ["value", "due"]⟩
abbrev d__law_sets : DD := ⟨top 12, "_law_sets", ["size", "found", "at", "number", "one"], ["size"]⟩
abbrev d__law_choose : DD := ⟨top 13, "_law_choose", ["n", "k", "number", "step"], ["n", "k"]⟩
abbrev d__law_row : DD := ⟨top 14, "_law_row", ["n", "k", "some"], ["n", "k"]⟩
abbrev d__law_far : DD := ⟨top 15, "_law_far", ["n", "things", "k", "number", "turned", "size"], ["n", "things"]⟩
abbrev d__law_exchanged : DD := ⟨top 16, "_law_exchanged", ["one", "other", "thing"], ["one", "other"]⟩
abbrev d__law_taken : DD := ⟨top 17, "_law_taken", ["draws", "k", "most", "left", "at"], ["draws", "k", "most"]⟩
abbrev d_law : DD := ⟨top 18, "law", ["script", "draws", "turn", "k", "n", "row", "more", "things", "at", "seat", "sets", "pair", "some"], ["script"]⟩
abbrev defs : List DD := [d_ways_to_take, d_exchange_row, d_place_in_row, d_things_at, d_seat_of, d_set_at_seat, d__law_cell, d__law_draws, d__law_is_integer, d__law_is, d__law_sets, d__law_choose, d__law_row, d__law_far, d__law_exchanged, d__law_taken, d_law]
abbrev fr : List Str := ["abs", "all", "bool", "enumerate", "int", "isinstance", "len", "list", "min", "range", "reversed", "sorted", "str", "sum", "tuple"]
abbrev tb (n : Nat) : Tab := tab fr defs n
def B_ways_to_take_1 (T : Tab) : ES := (bS (sAsg [] (mP (bind2 (bind2 (vr 2) (bind2 (vr 0) (vr 3) (binR .Sub)) (binR .Mult)) (bind2 (vr 3) (kI 1) (binR .Add)) (binR .FloorDiv))) (st1 2))
    bE)
def S_ways_to_take (T : Tab) : ES := (bS (sIf (tOr (tE (bind2 (vr 1) (kI 0) (cmpR .Lt))) (tE (bind2 (vr 1) (vr 0) (cmpR .Gt)))) (bS (sRet [] (mP (kI 0)))
    bE) bE)
    (bS (sAsg [] (mP (kI 1)) (st1 2))
    (bS (sFor [] (iRng (agE (vr 1) ag0)) (b1 3) (B_ways_to_take_1 T))
    (bS (sRetN 2)
    bE))))
theorem sh_ways_to_take (n : Nat) : exB (tb (n + 1)) d_ways_to_take.N (defScope d_ways_to_take.st) (fun _ => true) SF (defBody d_ways_to_take.st) = S_ways_to_take (tb n) := by kernel_rfl
def S_exchange_row (T : Tab) : ES := (bS (sIf (tOr (tE (bind2 (vr 1) (kI 0) (cmpR .Eq))) (tE (bind2 (vr 1) (vr 0) (cmpR .Eq)))) (bS (sRet [] (mP (tupE (agE (rgT (r1E (vr 1))) ag0))))
    bE) bE)
    (bS (sAsg [] (mP (caE (agE (bind2 (vr 0) (kI 1) (binR .Sub)) (agE (bind2 (vr 1) (kI 1) (binR .Sub)) ag0)) (gf T d_exchange_row))) (st1 2))
    (bS (sRet [] (mP (bind2 (caE (agE (bind2 (vr 0) (kI 1) (binR .Sub)) (agE (vr 1) ag0)) (gf T d_exchange_row)) (caE (agE (lcE (iRev (vr 2)) [3] (b1 3) fTrue (bind2 (vr 3) (tupE (agE (bind2 (vr 0) (kI 1) (binR .Sub)) ag0)) (binR .Add))) ag0) (oneR tupleR)) (binR .Add))))
    bE)))
theorem sh_exchange_row (n : Nat) : exB (tb (n + 1)) d_exchange_row.N (defScope d_exchange_row.st) (fun _ => true) SF (defBody d_exchange_row.st) = S_exchange_row (tb n) := by kernel_rfl
def S_place_in_row (T : Tab) : ES := (bS (sAsg [] (mP (caE (agE (vr 1) ag0) (oneR lenR))) (st1 2))
    (bS (sIf (tOr (tE (bind2 (vr 2) (kI 0) (cmpR .Eq))) (tE (bind2 (vr 2) (vr 0) (cmpR .Eq)))) (bS (sRet [] (mP (kI 0)))
    bE) bE)
    (bS (sIf (tE (bind2 (bind2 (vr 1) (ngE (kI 1)) ixR) (bind2 (vr 0) (kI 1) (binR .Sub)) (cmpR .Lt))) (bS (sRet [] (mP (caE (agE (bind2 (vr 0) (kI 1) (binR .Sub)) (agE (vr 1) ag0)) (gf T d_place_in_row))))
    bE) bE)
    (bS (sRet [] (mP (bind2 (bind2 (caE (agE (vr 0) (agE (vr 2) ag0)) (gf T d_ways_to_take)) (kI 1) (binR .Sub)) (caE (agE (bind2 (vr 0) (kI 1) (binR .Sub)) (agE (cutE (vr 1) oN (oS (ngE (kI 1)))) ag0)) (gf T d_place_in_row)) (binR .Sub))))
    bE))))
theorem sh_place_in_row (n : Nat) : exB (tb (n + 1)) d_place_in_row.N (defScope d_place_in_row.st) (fun _ => true) SF (defBody d_place_in_row.st) = S_place_in_row (tb n) := by kernel_rfl
def S_things_at (T : Tab) : ES := (bS (sIf (tE (bind2 (vr 2) (caE (agE (vr 0) (agE (vr 1) ag0)) (gf T d_ways_to_take)) (cmpR .GtE))) (bS (sRet [] (mP kN))
    bE) bE)
    (bS (sIf (tOr (tE (bind2 (vr 1) (kI 0) (cmpR .Eq))) (tE (bind2 (vr 1) (vr 0) (cmpR .Eq)))) (bS (sRet [] (mP (rgT (r1E (vr 1)))))
    bE) bE)
    (bS (sIf (tE (bind2 (vr 2) (caE (agE (bind2 (vr 0) (kI 1) (binR .Sub)) (agE (vr 1) ag0)) (gf T d_ways_to_take)) (cmpR .Lt))) (bS (sRet [] (mP (caE (agE (bind2 (vr 0) (kI 1) (binR .Sub)) (agE (vr 1) (agE (vr 2) ag0))) (gf T d_things_at))))
    bE) bE)
    (bS (sRet [] (mP (bind2 (caE (agE (bind2 (vr 0) (kI 1) (binR .Sub)) (agE (bind2 (vr 1) (kI 1) (binR .Sub)) (agE (bind2 (bind2 (caE (agE (vr 0) (agE (vr 1) ag0)) (gf T d_ways_to_take)) (kI 1) (binR .Sub)) (vr 2) (binR .Sub)) ag0))) (gf T d_things_at)) (tupE (agE (bind2 (vr 0) (kI 1) (binR .Sub)) ag0)) (binR .Add))))
    bE))))
theorem sh_things_at (n : Nat) : exB (tb (n + 1)) d_things_at.N (defScope d_things_at.st) (fun _ => true) SF (defBody d_things_at.st) = S_things_at (tb n) := by kernel_rfl
def S_seat_of (T : Tab) : ES := (bS (sRet [] (mP (caE (agE (lcE (iEnum (vr 0)) [1, 2] (bT 2 (bC (b1 1) (bC (b1 2) bN))) fTrue (caE (agE (vr 2) (agE (bind2 (vr 1) (kI 1) (binR .Add)) ag0)) (gf T d_ways_to_take))) ag0) (oneR sumR))))
    bE)
theorem sh_seat_of (n : Nat) : exB (tb (n + 1)) d_seat_of.N (defScope d_seat_of.st) (fun _ => true) SF (defBody d_seat_of.st) = S_seat_of (tb n) := by kernel_rfl
def B_set_at_seat_1 (T : Tab) : ES := (bS (sAug 2 (fun a b => a + b) (kI 1))
    bE)
def S_set_at_seat (T : Tab) : ES := (bS (sIf (tE (bind2 (vr 0) (kI 0) (cmpR .Eq))) (bS (sRet [] (mP (tupE ag0)))
    bE) bE)
    (bS (sAsg [] (mP (bind2 (vr 0) (kI 1) (binR .Sub))) (st1 2))
    (bS (sWhl (tE (bind2 (caE (agE (bind2 (vr 2) (kI 1) (binR .Add)) (agE (vr 0) ag0)) (gf T d_ways_to_take)) (vr 1) (cmpR .LtE))) (B_set_at_seat_1 T))
    (bS (sRet [] (mP (bind2 (caE (agE (bind2 (vr 0) (kI 1) (binR .Sub)) (agE (bind2 (vr 1) (caE (agE (vr 2) (agE (vr 0) ag0)) (gf T d_ways_to_take)) (binR .Sub)) ag0)) (gf T d_set_at_seat)) (tupE (agE (vr 2) ag0)) (binR .Add))))
    bE))))
theorem sh_set_at_seat (n : Nat) : exB (tb (n + 1)) d_set_at_seat.N (defScope d_set_at_seat.st) (fun _ => true) SF (defBody d_set_at_seat.st) = S_set_at_seat (tb n) := by kernel_rfl
def S__law_cell (T : Tab) : ES := (bS (sIf (tE (bind2 (vr 1) (caE (agE (vr 0) ag0) (oneR lenR)) (cmpR .Lt))) (bS (sRet [] (mP (bind2 (vr 0) (vr 1) ixR)))
    bE) bE)
    (bS (sRet [] (mP (bind2 (bind2 (kI 5) (vr 1) (binR .Mult)) (kI 3) (binR .Add))))
    bE))
theorem sh__law_cell (n : Nat) : exB (tb (n + 1)) d__law_cell.N (defScope d__law_cell.st) (fun _ => true) SF (defBody d__law_cell.st) = S__law_cell (tb n) := by kernel_rfl
def B__law_draws_1 (T : Tab) : ES := (bS (sIf (tAnd (tE (vr 3)) (tE (bind2 (vr 2) (kI 0) (cmpR .Gt)))) (bS (sApp 5 [] (bind2 (caE (agE (vr 2) ag0) (oneR intR)) (kI 5040) (binR .Mod)))
    (bS (sAsg [] (mP (bind2 (vr 2) (kI 5040) (binR .FloorDiv))) (st1 2))
    bE)) (bS (sAsg [] (mP (bind2 (caE (agE (bind2 (bind2 (bind2 (vr 4) (kI 48271) (binR .Mult)) (bind2 (bind2 (vr 6) (kI 1) (binR .Add)) (kI 69621) (binR .Mult)) (binR .Add)) (kI 11) (binR .Add)) ag0) (oneR intR)) (kI 2147483647) (binR .Mod))) (st1 7))
    (bS (sAsg [] (mP (bind2 (caE (agE (bind2 (bind2 (vr 7) (vr 7) (binR .Mult)) (bind2 (kI 40692) (bind2 (vr 6) (kI 3) (binR .Add)) (binR .Mult)) (binR .Add)) ag0) (oneR intR)) (kI 2147483399) (binR .Mod))) (st1 7))
    (bS (sApp 5 [] (bind2 (caE (agE (bind2 (vr 7) (kI 64) (binR .FloorDiv)) ag0) (oneR intR)) (kI 5040) (binR .Mod)))
    bE))))
    bE)
def S__law_draws (T : Tab) : ES := (bS (sAsg [] (mP (caE (agE (caE (agE (vr 0) ag0) (oneR intR)) ag0) (oneR absR))) (st1 2))
    (bS (sAsg [] (mP (bind2 (vr 2) (bind2 (kI 10) (kI 18) (binR .Pow)) (cmpR .GtE))) (st1 3))
    (bS (sAsg [2] (mP (vr 2)) (st1 4))
    (bS (sAsg [] (mP (lstE ag0)) (st1 5))
    (bS (sFor [] (iRng (agE (vr 1) ag0)) (b1 6) (B__law_draws_1 T))
    (bS (sRetN 5)
    bE))))))
theorem sh__law_draws (n : Nat) : exB (tb (n + 1)) d__law_draws.N (defScope d__law_draws.st) (fun _ => true) SF (defBody d__law_draws.st) = S__law_draws (tb n) := by kernel_rfl
def S__law_is_integer (T : Tab) : ES := (bS (sRet [] (mP (vAnd (isE (vr 0) "int") (ntE (isE (vr 0) "bool")))))
    bE)
theorem sh__law_is_integer (n : Nat) : exB (tb (n + 1)) d__law_is_integer.N (defScope d__law_is_integer.st) (fun _ => true) SF (defBody d__law_is_integer.st) = S__law_is_integer (tb n) := by kernel_rfl
def S__law_is (T : Tab) : ES := (bS (sIf (tE (bind2 (vr 1) kN (cmpR .Is))) (bS (sRet [] (mP (bind2 (vr 0) kN (cmpR .Is))))
    bE) bE)
    (bS (sIf (tE (isE (vr 1) "bool")) (bS (sRet [] (mP (vAnd (isE (vr 0) "bool") (bind2 (vr 0) (vr 1) (cmpR .Eq)))))
    bE) bE)
    (bS (sIf (tE (isE (vr 1) "int")) (bS (sRet [] (mP (vAnd (caE (agE (vr 0) ag0) (gf T d__law_is_integer)) (bind2 (vr 0) (vr 1) (cmpR .Eq)))))
    bE) bE)
    (bS (sIf (tE (isE (vr 1) "str")) (bS (sRet [] (mP (vAnd (isE (vr 0) "str") (bind2 (vr 0) (vr 1) (cmpR .Eq)))))
    bE) bE)
    (bS (sIf (tOr (tNot (tE (isE (vr 0) "tuple"))) (tE (bind2 (caE (agE (vr 0) ag0) (oneR lenR)) (caE (agE (vr 1) ag0) (oneR lenR)) (cmpR .NotEq)))) (bS (sRet [] (mP (kBo false)))
    bE) bE)
    (bS (sRet [] (mP (caE (agE (lcE (iRng (agE (caE (agE (vr 1) ag0) (oneR lenR)) ag0)) [2] (b1 2) fTrue (caE (agE (bind2 (vr 0) (vr 2) ixR) (agE (bind2 (vr 1) (vr 2) ixR) ag0)) (gf T d__law_is))) ag0) (oneR allLR))))
    bE))))))
theorem sh__law_is (n : Nat) : exB (tb (n + 1)) d__law_is.N (defScope d__law_is.st) (fun _ => true) SF (defBody d__law_is.st) = S__law_is (tb n) := by kernel_rfl
def B__law_sets_1 (T : Tab) : ES := (bS (sAsg [] (mP (bind2 (vr 1) (lcE (iSeq (vr 1)) [4] (b1 4) fTrue (bind2 (vr 4) (tupE (agE (vr 2) ag0)) (binR .Add))) (binR .Add))) (st1 1))
    bE)
def S__law_sets (T : Tab) : ES := (bS (sAsg [] (mP (lstE (agE (tupE ag0) ag0))) (st1 1))
    (bS (sFor [] (iRng (agE (vr 0) ag0)) (b1 2) (B__law_sets_1 T))
    (bS (sRet [] (mP (lcE (iSeq (caE (agE (lcE (iSeq (vr 1)) [4] (b1 4) fTrue (tupE (agE (caE (agE (vr 4) ag0) (oneR lenR)) (agE (vr 4) ag0)))) ag0) (oneR (sortR false)))) [3, 4] (bT 2 (bC (b1 3) (bC (b1 4) bN))) fTrue (vr 4))))
    bE)))
theorem sh__law_sets (n : Nat) : exB (tb (n + 1)) d__law_sets.N (defScope d__law_sets.st) (fun _ => true) SF (defBody d__law_sets.st) = S__law_sets (tb n) := by kernel_rfl
def B__law_choose_1 (T : Tab) : ES := (bS (sAsg [] (mP (bind2 (bind2 (vr 2) (bind2 (vr 0) (vr 3) (binR .Sub)) (binR .Mult)) (bind2 (vr 3) (kI 1) (binR .Add)) (binR .FloorDiv))) (st1 2))
    bE)
def S__law_choose (T : Tab) : ES := (bS (sAsg [] (mP (kI 1)) (st1 2))
    (bS (sFor [] (iRng (agE (vr 1) ag0)) (b1 3) (B__law_choose_1 T))
    (bS (sRet [2] (mP (ifE (tE (bind2 (vr 1) (vr 0) (cmpR .LtE))) (vr 2) (kI 0))))
    bE)))
theorem sh__law_choose (n : Nat) : exB (tb (n + 1)) d__law_choose.N (defScope d__law_choose.st) (fun _ => true) SF (defBody d__law_choose.st) = S__law_choose (tb n) := by kernel_rfl
def S__law_row (T : Tab) : ES := (bS (sIf (tOr (tE (bind2 (vr 1) (kI 0) (cmpR .Eq))) (tE (bind2 (vr 1) (vr 0) (cmpR .Eq)))) (bS (sRet [] (mP (lstE (agE (rgT (r1E (vr 1))) ag0))))
    bE) bE)
    (bS (sRet [] (mP (bind2 (caE (agE (bind2 (vr 0) (kI 1) (binR .Sub)) (agE (vr 1) ag0)) (gf T d__law_row)) (lcE (iSeq (rvE (caE (agE (bind2 (vr 0) (kI 1) (binR .Sub)) (agE (bind2 (vr 1) (kI 1) (binR .Sub)) ag0)) (gf T d__law_row)))) [2] (b1 2) fTrue (bind2 (vr 2) (tupE (agE (bind2 (vr 0) (kI 1) (binR .Sub)) ag0)) (binR .Add))) (binR .Add))))
    bE))
theorem sh__law_row (n : Nat) : exB (tb (n + 1)) d__law_row.N (defScope d__law_row.st) (fun _ => true) SF (defBody d__law_row.st) = S__law_row (tb n) := by kernel_rfl
def B__law_far_1 (T : Tab) : ES := (bS (sIf (tAnd (tE (chainR .Lt .Lt (kI 0) (vr 2) (vr 5))) (tE (bind2 (bind2 (vr 1) (bind2 (vr 2) (kI 1) (binR .Sub)) ixR) (bind2 (vr 5) (kI 1) (binR .Sub)) (cmpR .Eq)))) (bS (sAsg [] (mP (bind2 (vr 3) (bind2 (bind2 (caE (agE (vr 5) (agE (vr 2) ag0)) (gf T d__law_choose)) (kI 1) (binR .Sub)) (ifE (tE (vr 4)) (bind2 (kI 0) (kI 1) (binR .Sub)) (kI 1)) (binR .Mult)) (binR .Add))) (st1 3))
    (bS (sAsg [] (mP (ntE (vr 4))) (st1 4))
    (bS (sAsg [] (mP (bind2 (vr 2) (kI 1) (binR .Sub))) (st1 2))
    bE))) (bS (sIf (tE (bind2 (vr 2) (vr 5) (cmpR .Eq))) (bS (sAsg [] (mP (kI 0)) (st1 2))
    bE) bE)
    bE))
    bE)
def S__law_far (T : Tab) : ES := (bS (sAsg [] (mP (caE (agE (vr 1) ag0) (oneR lenR))) (st1 2))
    (bS (sAsg [] (mP (kI 0)) (st1 3))
    (bS (sAsg [] (mP (kBo false)) (st1 4))
    (bS (sFor [] (iRng (agE (vr 0) (agE (kI 0) (agE (bind2 (kI 0) (kI 1) (binR .Sub)) ag0)))) (b1 5) (B__law_far_1 T))
    (bS (sRetN 3)
    bE)))))
theorem sh__law_far (n : Nat) : exB (tb (n + 1)) d__law_far.N (defScope d__law_far.st) (fun _ => true) SF (defBody d__law_far.st) = S__law_far (tb n) := by kernel_rfl
def S__law_exchanged (T : Tab) : ES := (bS (sRet [] (mP (vAnd (bind2 (caE (agE (lcE (iSeq (vr 0)) [2] (b1 2) (tE (bind2 (vr 2) (vr 1) (cmpR .NotIn))) (vr 2)) ag0) (oneR lenR)) (kI 1) (cmpR .Eq)) (bind2 (caE (agE (vr 0) ag0) (oneR lenR)) (caE (agE (vr 1) ag0) (oneR lenR)) (cmpR .Eq)))))
    bE)
theorem sh__law_exchanged (n : Nat) : exB (tb (n + 1)) d__law_exchanged.N (defScope d__law_exchanged.st) (fun _ => true) SF (defBody d__law_exchanged.st) = S__law_exchanged (tb n) := by kernel_rfl
def S__law_taken (T : Tab) : ES := (bS (sAsg [] (mP (rgL (r1E (vr 2)))) (st1 3))
    (bS (sRet [] (mCall (mCall (mComp 3 (iRng (agE (vr 1) ag0)) [4] (b1 4) (bind2 (caE (agE (bind2 (vr 0) (vr 4) ixR) ag0) (oneR intR)) (caE (agE (vr 3) ag0) (oneR lenR)) (binR .Mod))) (oneR (sortR false))) (oneR tupleR)))
    bE))
theorem sh__law_taken (n : Nat) : exB (tb (n + 1)) d__law_taken.N (defScope d__law_taken.st) (fun _ => true) SF (defBody d__law_taken.st) = S__law_taken (tb n) := by kernel_rfl
def B_law_1 (T : Tab) : ES := (bS (sIf (tOr (tNot (tE (caE (agE (caE (agE (bind2 (vr 11) (kI 1) ixR) ag0) (gf T d_seat_of)) (agE (vr 8) ag0)) (gf T d__law_is)))) (tNot (tE (caE (agE (caE (agE (vr 3) (agE (vr 8) ag0)) (gf T d_set_at_seat)) (agE (bind2 (vr 11) (kI 1) ixR) ag0)) (gf T d__law_is))))) (bS (sRet [] (mP (kBo false)))
    bE) bE)
    bE)
def B_law_2 (T : Tab) : ES := (bS (sAsg [] (mP (caE (agE (caE (agE (caE (agE (vr 0) (agE (bind2 (kI 5) (vr 3) (binR .Add)) ag0)) (gf T d__law_cell)) (agE (kI 6) ag0)) (gf T d__law_draws)) (agE (vr 3) (agE (ifE (tE (bind2 (vr 3) (kI 4) (cmpR .Gt))) (kI 30) (kI 40)) ag0))) (gf T d__law_taken))) (st1 7))
    (bS (sAsg [] (mP (caE (agE (lcE (iRng (agE (vr 3) ag0)) [8] (b1 8) fTrue (caE (agE (bind2 (vr 7) (vr 8) ixR) (agE (bind2 (vr 8) (kI 1) (binR .Add)) ag0)) (gf T d__law_choose))) ag0) (oneR sumR))) (st1 9))
    (bS (sIf (tOr (tNot (tE (caE (agE (caE (agE (vr 7) ag0) (gf T d_seat_of)) (agE (vr 9) ag0)) (gf T d__law_is)))) (tNot (tE (caE (agE (caE (agE (vr 3) (agE (vr 9) ag0)) (gf T d_set_at_seat)) (agE (vr 7) ag0)) (gf T d__law_is))))) (bS (sRet [] (mP (kBo false)))
    bE) bE)
    (bS (sAsg [] (mP (lcE (iSeq (caE (agE (kI 7) ag0) (gf T d__law_sets))) [12] (b1 12) (tE (bind2 (caE (agE (vr 12) ag0) (oneR lenR)) (vr 3) (cmpR .Eq))) (vr 12))) (st1 10))
    (bS (sFor [] (iEnum (caE (agE (lcE (iSeq (vr 10)) [12] (b1 12) fTrue (tupE (agE (rvE (vr 12)) (agE (vr 12) ag0)))) ag0) (oneR (sortR false)))) (bT 2 (bC (b1 8) (bC (b1 11) bN))) (B_law_1 T))
    bE)))))
def B_law_3 (T : Tab) : ES := (bS (sAsg [] (mP (bind2 (kI 8) (bind2 (caE (agE (bind2 (vr 1) (bind2 (kI 10) (vr 2) (binR .Add)) ixR) ag0) (oneR intR)) (kI 23) (binR .Mod)) (binR .Add))) (st1 4))
    (bS (sAsg [] (mP (bind2 (caE (agE (bind2 (vr 1) (bind2 (kI 14) (vr 2) (binR .Add)) ixR) ag0) (oneR intR)) (bind2 (vr 4) (kI 1) (binR .Add)) (binR .Mod))) (st1 3))
    (bS (sAsg [] (mP (caE (agE (caE (agE (caE (agE (vr 0) (agE (bind2 (kI 1) (vr 2) (binR .Add)) ag0)) (gf T d__law_cell)) (agE (kI 30) ag0)) (gf T d__law_draws)) (agE (vr 3) (agE (vr 4) ag0))) (gf T d__law_taken))) (st1 7))
    (bS (sAsg [] (mP (caE (agE (vr 4) (agE (vr 7) ag0)) (gf T d__law_far))) (st1 8))
    (bS (sIf (tOr (tNot (tE (caE (agE (caE (agE (vr 4) (agE (vr 7) ag0)) (gf T d_place_in_row)) (agE (vr 8) ag0)) (gf T d__law_is)))) (tNot (tE (caE (agE (caE (agE (vr 4) (agE (vr 3) (agE (vr 8) ag0))) (gf T d_things_at)) (agE (vr 7) ag0)) (gf T d__law_is))))) (bS (sRet [] (mP (kBo false)))
    bE) bE)
    (bS (sIf (tE (bind2 (caE (agE (vr 4) (agE (vr 3) (agE (caE (agE (vr 4) (agE (vr 3) ag0)) (gf T d__law_choose)) ag0))) (gf T d_things_at)) kN (cmpR .IsNot))) (bS (sRet [] (mP (kBo false)))
    bE) bE)
    bE))))))
def B_law_4 (T : Tab) : ES := (bS (sIf (tE (bind2 (caE (agE (vr 4) (agE (vr 3) (agE (bind2 (caE (agE (vr 5) ag0) (oneR lenR)) (vr 6) (binR .Add)) ag0))) (gf T d_things_at)) kN (cmpR .IsNot))) (bS (sRet [] (mP (kBo false)))
    bE) bE)
    bE)
def B_law_5 (T : Tab) : ES := (bS (sIf (tAnd (tE (bind2 (caE (agE (vr 5) ag0) (oneR lenR)) (kI 1) (cmpR .Gt))) (tNot (tE (caE (agE (bind2 (vr 5) (bind2 (vr 8) (kI 1) (binR .Sub)) ixR) (agE (vr 7) ag0)) (gf T d__law_exchanged))))) (bS (sRet [] (mP (kBo false)))
    bE) bE)
    (bS (sIf (tOr (tNot (tE (caE (agE (caE (agE (vr 4) (agE (vr 7) ag0)) (gf T d_place_in_row)) (agE (vr 8) ag0)) (gf T d__law_is)))) (tNot (tE (caE (agE (caE (agE (vr 4) (agE (vr 3) (agE (vr 8) ag0))) (gf T d_things_at)) (agE (vr 7) ag0)) (gf T d__law_is))))) (bS (sRet [] (mP (kBo false)))
    bE) bE)
    bE))
def B_law_6 (T : Tab) : ES := (bS (sAsg [] (mP (bind2 (tupE (agE (kI 5) (agE (kI 6) (agE (kI 4) (agE (kI 7) (agE (kI 3) (agE (kI 2) (agE (kI 1) (agE (kI 0) ag0))))))))) (bind2 (caE (agE (bind2 (vr 1) (vr 2) ixR) ag0) (oneR intR)) (kI 8) (binR .Mod)) ixR)) (st1 4))
    (bS (sAsg [] (mP (caE (agE (vr 4) (agE (bind2 (tupE (agE (kI 2) (agE (kI 3) (agE (kI 1) (agE (kI 4) (agE (kI 0) (agE (kI 5) (agE (kI 7) ag0)))))))) (bind2 (caE (agE (bind2 (vr 1) (bind2 (kI 3) (vr 2) (binR .Add)) ixR) ag0) (oneR intR)) (kI 7) (binR .Mod)) ixR) ag0)) minA)) (st1 3))
    (bS (sAsg [] (mP (caE (agE (vr 4) (agE (vr 3) ag0)) (gf T d__law_row))) (st1 5))
    (bS (sIf (tNot (tE (caE (agE (caE (agE (vr 4) (agE (vr 3) ag0)) (gf T d_exchange_row)) (agE (caE (agE (vr 5) ag0) (oneR tupleR)) ag0)) (gf T d__law_is)))) (bS (sRet [] (mP (kBo false)))
    bE) bE)
    (bS (sIf (tE (bind2 (caE (agE (vr 5) ag0) (oneR (sortR false))) (caE (agE (lcE (iSeq (caE (agE (vr 4) ag0) (gf T d__law_sets))) [7] (b1 7) (tE (bind2 (caE (agE (vr 7) ag0) (oneR lenR)) (vr 3) (cmpR .Eq))) (vr 7)) ag0) (oneR (sortR false))) (cmpR .NotEq))) (bS (sRet [] (mP (kBo false)))
    bE) bE)
    (bS (sFor [5] (iEnum (vr 5)) (bT 2 (bC (b1 8) (bC (b1 7) bN))) (B_law_5 T))
    (bS (sFor [] (iSeq (tupE (agE (kI 0) (agE (bind2 (kI 1) (bind2 (caE (agE (bind2 (vr 1) (bind2 (kI 6) (vr 2) (binR .Add)) ixR) ag0) (oneR intR)) (kI 50) (binR .Mod)) (binR .Add)) (agE (bind2 (kI 10) (kI 20) (binR .Pow)) ag0))))) (b1 6) (B_law_4 T))
    bE)))))))
def S_law (T : Tab) : ES := (bS (sAsg [] (mP (caE (agE (caE (agE (vr 0) (agE (kI 0) ag0)) (gf T d__law_cell)) (agE (kI 60) ag0)) (gf T d__law_draws))) (st1 1))
    (bS (sFor [] (iRng (agE (kI 3) ag0)) (b1 2) (B_law_6 T))
    (bS (sFor [] (iRng (agE (kI 4) ag0)) (b1 2) (B_law_3 T))
    (bS (sFor [] (iRng (agE (kI 1) (agE (kI 7) ag0))) (b1 3) (B_law_2 T))
    (bS (sRet [] (mP (kBo true)))
    bE)))))
theorem sh_law (n : Nat) : exB (tb (n + 1)) d_law.N (defScope d_law.st) (fun _ => true) SF (defBody d_law.st) = S_law (tb n) := by kernel_rfl
end Kd

/-! H79a: choose numbers; ways_to_take, _law_choose. -/
namespace Kd
open PySem PySem.Spec PyProof.Rows L2
def ch : Nat → Nat → Nat
  | _, 0 => 1
  | 0, _ + 1 => 0
  | n + 1, k + 1 => ch n k + ch n (k + 1)
theorem ch_0 (n : Nat) : ch n 0 = 1 := by cases n <;> rfl
theorem ch_lt : ∀ {n k : Nat}, n < k → ch n k = 0
  | 0, k + 1, _ => rfl
  | n + 1, k + 1, h => by rw [ch, ch_lt (by omega : n < k), ch_lt (by omega : n < k + 1)]
theorem ch_self : ∀ n : Nat, ch n n = 1
  | 0 => rfl
  | n + 1 => by rw [ch, ch_self n, ch_lt (by omega : n < n + 1)]
theorem ch_step : ∀ n k : Nat, ch n (k + 1) * (k + 1) = ch n k * (n - k)
  | 0, k => by simp [ch]
  | n + 1, 0 => by
    have := ch_step n 0
    simp only [ch, ch_0, Nat.zero_add, Nat.mul_one, Nat.one_mul, Nat.sub_zero] at this ⊢
    omega
  | n + 1, j + 1 => by
    have h1 := ch_step n (j + 1)
    have h2 := ch_step n j
    have e : n + 1 - (j + 1) = n - j := by omega
    rw [ch, e, Nat.add_mul, h1, ch, Nat.add_mul, ← h2]
    by_cases hj : j + 1 ≤ n
    · rw [← Nat.mul_add, ← Nat.mul_add]
      congr 1
      omega
    · rw [ch_lt (by omega : n < j + 1)]
      simp
theorem ch_stepZ (n i : Nat) : ((ch n i : Nat) : Int) * ((n : Int) - (i : Int)) / ((i : Int) + 1) = ((ch n (i + 1) : Nat) : Int) := by
  have h := ch_step n i
  have e : ((ch n i : Nat) : Int) * ((n : Int) - (i : Int)) = ((ch n (i + 1) : Nat) : Int) * ((i : Int) + 1) := by
    by_cases hi : i ≤ n
    · have : ((n : Int) - (i : Int)) = ((n - i : Nat) : Int) := by omega
      rw [this]
      exact_mod_cast h.symm
    · rw [ch_lt (by omega : n < i), ch_lt (by omega : n < i + 1)]
      simp
  rw [e]
  exact Int.mul_ediv_cancel _ (by omega)
theorem toNat_sub0 (k : Nat) : ((k : Int)).toNat = k := by omega
/-- the loop of ways_to_take -/
theorem ways_loop (T : Tab) (n k : Nat) (hn : n < 2 ^ 62) (hk : k ≤ 16777216) : ∃ o, forL (stp (b1 3) (B_ways_to_take_1 T)) (rngD 0 k) [some (I n), some (I k), some (I 1), none] = some (.nx [some (I n), some (I k), some (I (ch n k : Nat)), o]) := by
  have h := forL_inv (step := stp (b1 3) (B_ways_to_take_1 T)) (ds := rngD 0 k) (fun i ρ => ∃ o, ρ = [some (I n), some (I k), some (I (ch n i : Nat)), o]) (ρ := [some (I n), some (I k), some (I 1), none]) ⟨none, by rw [ch_0]; rfl⟩ (by
    rintro i d ρ hd ⟨o, rfl⟩
    obtain ⟨rfl, hi⟩ := rngD_get hd
    refine ⟨_, ?_, ⟨some (I (i : Nat)), rfl⟩⟩
    obtain ⟨z, hz⟩ : ∃ z : Int, z = (i : Nat) := ⟨_, rfl⟩
    obtain ⟨N, hN⟩ : ∃ z : Int, z = (n : Nat) := ⟨_, rfl⟩
    obtain ⟨C, hC⟩ : ∃ z : Int, z = (ch n i : Nat) := ⟨_, rfl⟩
    obtain ⟨C', hC'⟩ : ∃ z : Int, z = (ch n (i + 1) : Nat) := ⟨_, rfl⟩
    have e := ch_stepZ n i
    rw [← hz, ← hN, ← hC, ← hC'] at e
    rw [Int.zero_add, ← hz, ← hN, ← hC, ← hC']
    have m : mulR (I C) (I (N - z)) = some (I (C * (N - z))) := mulR_ok (.inr (by omega))
    have q : divR (I (C * (N - z))) (I (z + 1)) = some (I (C * (N - z) / (z + 1))) := divR_ok ⟨by omega, by
      have : (z + 1).natAbs < 2 ^ 26 := by omega
      have : (z + 1).natAbs.log2 < 26 := (Nat.log2_lt (by omega)).mpr this
      omega⟩
    simp [B_ways_to_take_1, m, q, e])
  obtain ⟨ρ', e, o, rfl⟩ := h
  rw [rngD_len] at e
  exact ⟨o, e⟩
theorem ways_ok (m n k : Nat) (hn : n < 2 ^ 62) (hk : k ≤ 16777216) : gf (tb (m + 1)) d_ways_to_take [I n, I k] = some (I (ch n k : Nat)) := by
  rw [gf_eq (sh_ways_to_take m) _ rfl]
  by_cases h : n < k
  · have h1 : ¬ ((k : Int) < 0) := by omega
    have h2 : ((n : Int) < (k : Int)) := by omega
    simp [S_ways_to_take, h1, h2, ch_lt h]
  · have h1 : ¬ ((k : Int) < 0) := by omega
    have h2 : ¬ ((n : Int) < (k : Int)) := by omega
    obtain ⟨o, e⟩ := ways_loop (tb m) n k hn hk
    have e2 : kRg (some [I (k : Int)]) = some (true, rngD 0 k) := by
      have := kRg_1 (n := (k : Int)) (by omega) (by omega)
      simpa using this
  
    simp [S_ways_to_take, h1, h2, e2, e]
theorem choose_ok (m n k : Nat) (hn : n < 2 ^ 62) (hk : k ≤ 16777216) : gf (tb (m + 1)) d__law_choose [I n, I k] = some (I (ch n k : Nat)) := by
  rw [gf_eq (sh__law_choose m) _ rfl]
  have hB : B__law_choose_1 (tb m) = B_ways_to_take_1 (tb m) := rfl
  obtain ⟨o, e⟩ := ways_loop (tb m) n k hn hk
  have e2 : kRg (some [I (k : Int)]) = some (true, rngD 0 k) := by
    have := kRg_1 (n := (k : Int)) (by omega) (by omega)
    simpa using this

  by_cases h : k ≤ n
  · have h2 : ((k : Int) ≤ (n : Int)) := by omega
    simp [S__law_choose, hB, h2, e2, e]
  · have h2 : ¬ ((k : Int) ≤ (n : Int)) := by omega
    simp [S__law_choose, hB, h2, e2, e, ch_lt (by omega : n < k)]
end Kd

/-! H79b: rows. -/
namespace Kd
open PySem PySem.Spec PyProof.Rows L2
def row : Nat → Nat → List (List Int)
  | 0, k => [rg k]
  | n + 1, k => if k = 0 ∨ k = n + 1 then [rg k] else row n k ++ ((row n (k - 1)).reverse.map fun t => t ++ [(n : Int)])
theorem row_len : ∀ (n k : Nat), ∀ t ∈ row n k, t.length = k
  | 0, k, t, h => by simp [row] at h; simp [h]
  | n + 1, k, t, h => by
    unfold row at h
    split at h
    · simp at h; simp [h]
    · rename_i hc
      rcases List.mem_append.mp h with h | h
      · exact row_len n k t h
      · obtain ⟨s, hs, rfl⟩ := List.mem_map.mp h
        have := row_len n (k - 1) s (List.mem_reverse.mp hs)
        simp
        omega
theorem row_sz : ∀ (n k : Nat), (row n k).length ≤ 2 ^ n
  | 0, k => by simp [row]
  | n + 1, k => by
    have h1 := row_sz n k
    have h2 := row_sz n (k - 1)
    have h3 : 1 ≤ 2 ^ n := Nat.one_le_two_pow
    unfold row
    split
    · simp; omega
    · simp
      omega
theorem map_rev {α β : Type} (f : α → β) (xs : List α) : (xs.map f).reverse = xs.reverse.map f := by simp
theorem exchange_ok : ∀ (n k m : Nat), k ≤ n → n ≤ 12 → gf (tb (m + n + 1)) d_exchange_row [I n, I k] = some (.v (.tuple ((row n k).map tI)))
  | 0, k, m, hk, hn => by
    have hk0 : k = 0 := by omega
    subst hk0
    rw [gf_eq (sh_exchange_row m) _ rfl]
    have e1 := kRT_ok (k := 0) (by omega)
    have e0 : ((0 : Nat) : Int) = 0 := rfl
    rw [e0] at e1
    simp [S_exchange_row, e1, row]
  | n + 1, k, m, hk, hn => by
    show gf (tb (m + n + 1 + 1)) d_exchange_row _ = _
    rw [gf_eq (sh_exchange_row (m + n + 1)) _ rfl]
    by_cases hc : k = 0 ∨ k = n + 1
    · have e1 := kRT_ok (k := k) (by omega)
      have hrow : row (n + 1) k = [rg k] := by rw [row, if_pos hc]
      rw [hrow]
      have c1 : ((k : Int) = 0) ∨ ((k : Int) = ((n + 1 : Nat) : Int)) := by omega
      by_cases h0 : (k : Int) = 0
      · simp [S_exchange_row, h0]
        have hk0 : k = 0 := by omega
        subst hk0
        have e0 : ((0 : Nat) : Int) = 0 := rfl
        rw [e0] at e1
        simp [e1]
      · have h1 : (k : Int) = ((n + 1 : Nat) : Int) := c1.resolve_left h0
        obtain ⟨z, hz⟩ : ∃ z : Int, z = (k : Int) := ⟨_, rfl⟩
        rw [← hz] at h0 h1 e1
        rw [← h1, ← hz]
        simp [S_exchange_row, h0, e1]
    · have c0 : ¬ ((k : Int) = 0) := by omega
      have c1 : ¬ ((k : Int) = ((n + 1 : Nat) : Int)) := by omega
      have ih1 := exchange_ok n k m (by omega) (by omega)
      have ih2 := exchange_ok n (k - 1) m (by omega) (by omega)
      have eN : (((n + 1 : Nat) : Int) - 1) = (n : Int) := by omega
      have eK : ((k : Int) - 1) = ((k - 1 : Nat) : Int) := by omega
      have c := cmp_map (b := b1 3) (E := bind2 (vr 3) (tupE (agE (bind2 (vr 0) (kI 1) (binR .Sub)) ag0)) (binR .Add)) (ρ := [some (I ((n + 1 : Nat) : Int)), some (I k), some (.v (.tuple ((row n (k - 1)).map tI))), none]) tI (fun t => tI (t ++ [(n : Int)])) (row n (k - 1)).reverse (by
        intro t ht
        refine ⟨_, rfl, .v (tI (t ++ [(n : Int)])), ?_, rfl⟩
        have hl := row_len n (k - 1) t (List.mem_reverse.mp ht)
        have e2 := add_tI t [(n : Int)] (by simp; omega)
        simp only [bind2_ap, vr_ap, List.set_cons_succ, List.set_cons_zero, getE_s, getE_z, kV_v, tupE_ap, agE_ap, kI_ap, ag0_ap, k2_some, binR_sub, subR_i, eN, kAg_v, tup1, binR_add, e2])
      have s1 := row_sz n k
      have s2 := row_sz n (k - 1)
      have s3 : 2 ^ n ≤ 2 ^ 12 := Nat.pow_le_pow_right (by omega) (by omega)
      have e3 : ((row n k).map tI).length + ((row n (k - 1)).reverse.map fun t => tI (t ++ [(n : Int)])).length ≤ sizeLine := by
        rw [sl_val]
        simp
        omega
      simp only [S_exchange_row, bS_ap, sIf_ap, tOr_ap, tE_ap, bind2_ap, vr_ap, List.map_cons, List.map_nil, List.cons_append, List.nil_append, getE_s, getE_z, kV_v, kI_ap, k2_some, cmpR_eq, c0, c1, decide_false, kT_bl, kTO_f, kIf_f, bE_ap, kB_nx, sAsg_ap, fzI_nil, mP_ap, caE_ap, agE_ap, ag0_ap, binR_sub, subR_i, eN, eK, kAg_v, kC_some, ih2, kP_some, kAs_some, st1_v, List.set_cons_succ, List.set_cons_zero, Option.map_some, sRet_ap, ih1, lcE_ap, iRev_ap, kIt_some, revI_tup, wipeE_cons, wipeE_nil, kLc_some, List.length_cons, List.length_nil, Nat.reduceAdd, Nat.reduceSub, List.replicate]
      rw [map_rev, c]
      simp only [kAg_own, kC_some, oneR_1, tupleR_list, k2_some, binR_add, addR_tup, e3, if_true, kP_some, kR_v, kB_ret, fin_ret]
      rw [row, if_neg hc, List.map_append, List.map_map]
      rfl
theorem lawrow_ok : ∀ (n k m : Nat), k ≤ n → n ≤ 12 → gf (tb (m + n + 1)) d__law_row [I n, I k] = some (.own ((row n k).map tI))
  | 0, k, m, hk, hn => by
    have hk0 : k = 0 := by omega
    subst hk0
    rw [gf_eq (sh__law_row m) _ rfl]
    have e1 := kRT_ok (k := 0) (by omega)
    have e0 : ((0 : Nat) : Int) = 0 := rfl
    rw [e0] at e1
    simp [S__law_row, e1, row]
  | n + 1, k, m, hk, hn => by
    show gf (tb (m + n + 1 + 1)) d__law_row _ = _
    rw [gf_eq (sh__law_row (m + n + 1)) _ rfl]
    by_cases hc : k = 0 ∨ k = n + 1
    · have e1 := kRT_ok (k := k) (by omega)
      have hrow : row (n + 1) k = [rg k] := by rw [row, if_pos hc]
      rw [hrow]
      have c1 : ((k : Int) = 0) ∨ ((k : Int) = ((n + 1 : Nat) : Int)) := by omega
      by_cases h0 : (k : Int) = 0
      · simp [S__law_row, h0]
        have hk0 : k = 0 := by omega
        subst hk0
        have e0 : ((0 : Nat) : Int) = 0 := rfl
        rw [e0] at e1
        simp [e1]
      · have h1 : (k : Int) = ((n + 1 : Nat) : Int) := c1.resolve_left h0
        obtain ⟨z, hz⟩ : ∃ z : Int, z = (k : Int) := ⟨_, rfl⟩
        rw [← hz] at h0 h1 e1
        rw [← h1, ← hz]
        simp [S__law_row, h0, e1]
    · have c0 : ¬ ((k : Int) = 0) := by omega
      have c1 : ¬ ((k : Int) = ((n + 1 : Nat) : Int)) := by omega
      have ih1 := lawrow_ok n k m (by omega) (by omega)
      have ih2 := lawrow_ok n (k - 1) m (by omega) (by omega)
      have eN : (((n + 1 : Nat) : Int) - 1) = (n : Int) := by omega
      have eK : ((k : Int) - 1) = ((k - 1 : Nat) : Int) := by omega
      have c := cmp_map (b := b1 2) (E := bind2 (vr 2) (tupE (agE (bind2 (vr 0) (kI 1) (binR .Sub)) ag0)) (binR .Add)) (ρ := [some (I ((n + 1 : Nat) : Int)), some (I k), none]) tI (fun t => tI (t ++ [(n : Int)])) (row n (k - 1)).reverse (by
        intro t ht
        refine ⟨_, rfl, .v (tI (t ++ [(n : Int)])), ?_, rfl⟩
        have hl := row_len n (k - 1) t (List.mem_reverse.mp ht)
        have e2 := add_tI t [(n : Int)] (by simp; omega)
        simp only [bind2_ap, vr_ap, List.set_cons_succ, List.set_cons_zero, getE_s, getE_z, kV_v, tupE_ap, agE_ap, kI_ap, ag0_ap, k2_some, binR_sub, subR_i, eN, kAg_v, tup1, binR_add, e2])
      have s1 := row_sz n k
      have s2 := row_sz n (k - 1)
      have s3 : 2 ^ n ≤ 2 ^ 12 := Nat.pow_le_pow_right (by omega) (by omega)
      have e3 : ((row n k).map tI).length + ((row n (k - 1)).reverse.map fun t => tI (t ++ [(n : Int)])).length ≤ sizeLine := by
        rw [sl_val]
        simp
        omega
      simp only [S__law_row, bS_ap, sIf_ap, tOr_ap, tE_ap, bind2_ap, vr_ap, List.map_cons, List.map_nil, List.cons_append, List.nil_append, getE_s, getE_z, kV_v, kI_ap, k2_some, cmpR_eq, c0, c1, decide_false, kT_bl, kTO_f, kIf_f, bE_ap, kB_nx, sAsg_ap, fzI_nil, mP_ap, caE_ap, agE_ap, ag0_ap, binR_sub, subR_i, eN, eK, kAg_v, kC_some, ih2, kP_some, kAs_some, st1_v, List.set_cons_succ, List.set_cons_zero, Option.map_some, sRet_ap, ih1, lcE_ap, iSeq_ap, rvE_ap, k1_some, revR_own, kIt_some, seqI_own, wipeE_cons, wipeE_nil, kLc_some, List.length_cons, List.length_nil, Nat.reduceAdd, Nat.reduceSub, List.replicate]
      rw [map_rev, c]
      simp only [k2_some, binR_add, addR_oo, e3, if_true, kP_some, kR_own, kB_ret, fin_ret]
      rw [row, if_neg hc, List.map_append, List.map_map]
      rfl
end Kd

/-! H79c: places in a row. -/
namespace Kd
open PySem PySem.Spec PyProof.Rows L2
/-- ascending, all of 0 .. n-1 -/
def Sb (n : Nat) (t : List Int) : Prop := t.Pairwise (· < ·) ∧ ∀ x ∈ t, 0 ≤ x ∧ x < n
theorem sb_nil (n : Nat) : Sb n [] := ⟨.nil, fun x h => by cases h⟩
theorem sb_snoc {n : Nat} {s : List Int} {x : Int} (h : Sb n (s ++ [x])) : Sb n s ∧ 0 ≤ x ∧ x < n ∧ ∀ y ∈ s, y < x := by
  obtain ⟨h1, h2⟩ := h
  rw [List.pairwise_append] at h1
  have hx := h2 x (by simp)
  exact ⟨⟨h1.1, fun y hy => h2 y (by simp [hy])⟩, hx.1, hx.2, fun y hy => h1.2.2 y hy x (by simp)⟩
theorem sb_low {n : Nat} {s : List Int} {x : Int} (h : Sb (n + 1) (s ++ [x])) (hx : x < n) : Sb n (s ++ [x]) := by
  obtain ⟨a, b, c, d⟩ := sb_snoc h
  refine ⟨h.1, fun y hy => ?_⟩
  rcases List.mem_append.mp hy with hy | hy
  · have := d y hy; have := a.2 y hy; omega
  · simp at hy; omega
theorem sb_high {n : Nat} {s : List Int} {x : Int} (h : Sb (n + 1) (s ++ [x])) (hx : ¬ x < n) : Sb n s ∧ x = n := by
  obtain ⟨a, b, c, d⟩ := sb_snoc h
  have e : x = n := by omega
  exact ⟨⟨a.1, fun y hy => ⟨(a.2 y hy).1, by have := d y hy; omega⟩⟩, e⟩
theorem snoc_cases (t : List Int) : t = [] ∨ ∃ s x, t = s ++ [x] := by
  rcases List.eq_nil_or_concat t with h | ⟨s, x, h⟩
  · exact .inl h
  · exact .inr ⟨s, x, by rw [h]; simp⟩
theorem sb_len : ∀ {n : Nat} {t : List Int}, Sb n t → t.length ≤ n
  | 0, t, h => by
    rcases snoc_cases t with rfl | ⟨s, x, rfl⟩
    · simp
    · obtain ⟨_, a, b, _⟩ := sb_snoc h
      omega
  | n + 1, t, h => by
    rcases snoc_cases t with rfl | ⟨s, x, rfl⟩
    · simp
    · by_cases hx : x < n
      · have := sb_len (sb_low h hx); omega
      · have := sb_len (sb_high h hx).1; simp; omega
theorem rg_succ (n : Nat) : rg (n + 1) = rg n ++ [(n : Int)] := by
  unfold rg
  rw [List.range_succ, List.map_append]
  rfl
theorem sb_full : ∀ {n : Nat} {t : List Int}, Sb n t → t.length = n → t = rg n
  | 0, t, h, hl => by rw [List.length_eq_zero_iff] at hl; subst hl; rfl
  | n + 1, t, h, hl => by
    rcases snoc_cases t with rfl | ⟨s, x, rfl⟩
    · simp at hl
    · by_cases hx : x < n
      · have := sb_len (sb_low h hx); omega
      · obtain ⟨a, rfl⟩ := sb_high h hx
        rw [sb_full a (by simpa using hl), rg_succ]
def lst (t : List Int) : Int := t.getLast?.getD 0
theorem lst_snoc (s : List Int) (x : Int) : lst (s ++ [x]) = x := by simp [lst]
def pl : Nat → List Int → Nat
  | 0, _ => 0
  | n + 1, t => if t.length = 0 ∨ t.length = n + 1 then 0 else if lst t < n then pl n t else ch (n + 1) t.length - 1 - pl n t.dropLast
def ta : Nat → Nat → Nat → List Int
  | 0, k, _ => rg k
  | n + 1, k, a => if k = 0 ∨ k = n + 1 then rg k else if a < ch n k then ta n k a else ta n (k - 1) (ch (n + 1) k - 1 - a) ++ [(n : Int)]
theorem ch_pas (n k : Nat) (h : 0 < k) : ch (n + 1) k = ch n (k - 1) + ch n k := by
  obtain ⟨j, rfl⟩ : ∃ j, k = j + 1 := ⟨k - 1, by omega⟩
  rfl
theorem pl_ok : ∀ {n : Nat} {t : List Int}, Sb n t → pl n t < ch n t.length ∧ ta n t.length (pl n t) = t
  | 0, t, h => by
    have := sb_len h
    have h0 : t = [] := List.length_eq_zero_iff.mp (by omega)
    subst h0
    exact ⟨by decide, rfl⟩
  | n + 1, t, h => by
    by_cases hc : t.length = 0 ∨ t.length = n + 1
    · rw [pl, if_pos hc, ta, if_pos hc]
      rcases hc with hc | hc
      · have h0 : t = [] := List.length_eq_zero_iff.mp hc
        subst h0
        exact ⟨by simp [ch_0], rfl⟩
      · rw [hc, ch_self]
        exact ⟨by omega, (sb_full h hc).symm⟩
    · rw [pl, if_neg hc, ta, if_neg hc]
      rcases snoc_cases t with rfl | ⟨s, x, rfl⟩
      · simp at hc
      · have hp := ch_pas n (s ++ [x]).length (by simp)
        rw [lst_snoc]
        by_cases hx : x < n
        · obtain ⟨a, b⟩ := pl_ok (sb_low h hx)
          rw [if_pos hx, if_pos a]
          exact ⟨by omega, b⟩
        · obtain ⟨hs, rfl⟩ := sb_high h hx
          obtain ⟨a, b⟩ := pl_ok hs
          rw [if_neg hx, List.dropLast_concat]
          have e : (s ++ [(n : Int)]).length - 1 = s.length := by simp
          rw [e] at hp ⊢
          rw [if_neg (by omega)]
          refine ⟨by omega, ?_⟩
          rw [show ch (n + 1) (s ++ [(n : Int)]).length - 1 - (ch (n + 1) (s ++ [(n : Int)]).length - 1 - pl n s) = pl n s by omega, b]
theorem cut_init (s : List D) (x : D) : cutD (s ++ [x]) none (some (-1)) = s := by
  unfold cutD HT.sIx
  simp
  have : (-1 + ((s.length : Int) + 1)).toNat = s.length := by omega
  simp [this]
theorem cut_tI (s : List Int) (x : Int) : cutD ((s ++ [x]).map PyData.int) none (some (-1)) = s.map PyData.int := by
  rw [List.map_append]
  exact cut_init _ _
end Kd

/-! H79d: place_in_row, things_at. -/
namespace Kd
open PySem PySem.Spec PyProof.Rows L2
theorem atI_tI (s : List Int) (x : Int) : atI ((s ++ [x]).map PyData.int) (-1) = some (.int x) := by
  rw [List.map_append]
  exact atI_last
theorem ixR_last (s : List Int) (x : Int) : ixR (.v (tI (s ++ [x]))) (I (-1)) = some (I x) := by
  show (atI ((s ++ [x]).map PyData.int) (-1)).map R.v = _
  rw [atI_tI]
  rfl
theorem slR_init (s : List Int) (x : Int) : slR (.v (tI (s ++ [x]))) none (some (-1)) = some (.v (tI s)) := by
  show some (R.v (.tuple (cutD ((s ++ [x]).map PyData.int) none (some (-1))))) = _
  rw [cut_tI]
  rfl
theorem place_ok : ∀ (n m : Nat) (t : List Int), n ≤ 60 → Sb n t → gf (tb (m + n + 2)) d_place_in_row [I n, .v (tI t)] = some (I (pl n t : Nat))
  | 0, m, t, hn, h => by
    have h0 : t = [] := List.length_eq_zero_iff.mp (by have := sb_len h; omega)
    subst h0
    rw [gf_eq (sh_place_in_row (m + 1)) _ rfl]
    simp [S_place_in_row, pl]
  | n + 1, m, t, hn, h => by
    show gf (tb (m + n + 2 + 1)) d_place_in_row _ = _
    rw [gf_eq (sh_place_in_row (m + n + 2)) _ rfl]
    have hl := sb_len h
    by_cases hc : t.length = 0 ∨ t.length = n + 1
    · rw [pl, if_pos hc]
      by_cases h0 : ((t.length : Nat) : Int) = 0
      · simp [S_place_in_row, h0]
      · have h1 : ((t.length : Nat) : Int) = ((n + 1 : Nat) : Int) := by omega
        obtain ⟨z, hz⟩ : ∃ z : Int, z = (t.length : Int) := ⟨_, rfl⟩
        rw [← hz] at h0 h1
        rw [← h1]
        simp [S_place_in_row, h0, ← hz]
    · rcases snoc_cases t with rfl | ⟨s, x, rfl⟩
      · simp at hc
      · have c0 : ¬ (((s ++ [x]).length : Nat) : Int) = 0 := by omega
        have c1 : ¬ (((s ++ [x]).length : Nat) : Int) = ((n + 1 : Nat) : Int) := by omega
        have eN : (((n + 1 : Nat) : Int) - 1) = (n : Int) := by omega
        rw [pl, if_neg hc, lst_snoc]
        by_cases hx : x < n
        · rw [if_pos hx]
          have ih := place_ok n m (s ++ [x]) (by omega) (sb_low h hx)
          simp only [S_place_in_row, bS_ap, sIf_ap, tOr_ap, tE_ap, bind2_ap, vr_ap, List.map_cons, List.map_nil, List.cons_append, List.nil_append, getE_s, getE_z, kV_v, kI_ap, k2_some, cmpR_eq, c0, c1, decide_false, kT_bl, kTO_f, kIf_f, bE_ap, kB_nx, sAsg_ap, fzI_nil, mP_ap, caE_ap, agE_ap, ag0_ap, binR_sub, subR_i, eN, kAg_v, kC_some, oneR_1, lenR_tI, kP_some, kAs_some, st1_v, List.set_cons_succ, List.set_cons_zero, Option.map_some, sRet_ap, List.length_cons, List.length_nil, Nat.reduceAdd, Nat.reduceSub, List.replicate, ngE_ap, kNg_i, ixR_last, cmpR_lt, hx, decide_true, kIf_t, ih, kR_v, kB_ret, fin_ret]
        · rw [if_neg hx, List.dropLast_concat]
          obtain ⟨hs, rfl⟩ := sb_high h hx
          have ih := place_ok n m s (by omega) hs
          have hp := ch_pas n (s ++ [(n : Int)]).length (by simp)
          obtain ⟨a, b⟩ := pl_ok hs
          have hw := ways_ok (m + n + 1) (n + 1) (s ++ [(n : Int)]).length (by omega) (by omega)
          have e : (s ++ [(n : Int)]).length - 1 = s.length := by simp
          rw [e] at hp
          have fin1 : ((ch (n + 1) (s ++ [(n : Int)]).length : Nat) : Int) - 1 - ((pl n s : Nat) : Int) = ((ch (n + 1) (s ++ [(n : Int)]).length - 1 - pl n s : Nat) : Int) := by omega
          have hx' : ¬ ((n : Int) < (n : Int)) := by omega
          simp only [S_place_in_row, bS_ap, sIf_ap, tOr_ap, tE_ap, bind2_ap, vr_ap, List.map_cons, List.map_nil, List.cons_append, List.nil_append, getE_s, getE_z, kV_v, kI_ap, k2_some, cmpR_eq, c0, c1, decide_false, kT_bl, kTO_f, kIf_f, bE_ap, kB_nx, sAsg_ap, fzI_nil, mP_ap, caE_ap, agE_ap, ag0_ap, binR_sub, subR_i, eN, kAg_v, kC_some, oneR_1, lenR_tI, kP_some, kAs_some, st1_v, List.set_cons_succ, List.set_cons_zero, Option.map_some, sRet_ap, List.length_cons, List.length_nil, Nat.reduceAdd, Nat.reduceSub, List.replicate, ngE_ap, kNg_i, ixR_last, cmpR_lt, hx', decide_true, kIf_t, cutE_ap, oN_ap, oS_ap, kO_i, kCt_some, slR_init, hw, ih, fin1, kP_some, kR_v, kB_ret, fin_ret]
theorem things_none (n k m : Nat) (a : Int) (hn : n ≤ 60) (hk : k ≤ n) (ha : ((ch n k : Nat) : Int) ≤ a) : gf (tb (m + 2)) d_things_at [I n, I k, I a] = some Non := by
  rw [gf_eq (sh_things_at (m + 1)) _ rfl]
  have hw := ways_ok m n k (by omega) (by omega)
  simp [S_things_at, hw, ha]
theorem things_ok : ∀ (n k a m : Nat), n ≤ 60 → k ≤ n → a < ch n k → gf (tb (m + n + 2)) d_things_at [I n, I k, I a] = some (.v (tI (ta n k a)))
  | 0, k, a, m, hn, hk, ha => by
    have hk0 : k = 0 := by omega
    subst hk0
    rw [gf_eq (sh_things_at (m + 1)) _ rfl]
    have hw := ways_ok m 0 0 (by omega) (by omega)
    have h1 : ¬ ((ch 0 0 : Nat) : Int) ≤ (a : Int) := by omega
    have e1 := kRT_ok (k := 0) (by omega)
    have e0 : ((0 : Nat) : Int) = 0 := rfl
    rw [e0] at e1 hw
    simp [S_things_at, hw, h1, e1, ta]
  | n + 1, k, a, m, hn, hk, ha => by
    show gf (tb (m + n + 2 + 1)) d_things_at _ = _
    rw [gf_eq (sh_things_at (m + n + 2)) _ rfl]
    have hw := ways_ok (m + n + 1) (n + 1) k (by omega) (by omega)
    have h1 : ¬ ((ch (n + 1) k : Nat) : Int) ≤ (a : Int) := by omega
    have e1 := kRT_ok (k := k) (by omega)
    by_cases hc : k = 0 ∨ k = n + 1
    · rw [ta, if_pos hc]
      by_cases h0 : (k : Int) = 0
      · have hk0 : k = 0 := by omega
        subst hk0
        have e0 : ((0 : Nat) : Int) = 0 := rfl
        rw [e0] at e1 hw ⊢
        generalize (((n + 1 : Nat)) : Int) = z at *
        simp [S_things_at, hw, h1, e1]
      · have h2 : (k : Int) = ((n + 1 : Nat) : Int) := by omega
        obtain ⟨z, hz⟩ : ∃ z : Int, z = (k : Int) := ⟨_, rfl⟩
        rw [← hz] at h0 h2 e1 hw
        rw [← h2] at hw ⊢
        rw [← hz]
        simp [S_things_at, h0, hw, h1, e1]
    · have c0 : ¬ (k : Int) = 0 := by omega
      have c1 : ¬ (k : Int) = ((n + 1 : Nat) : Int) := by omega
      have eN : (((n + 1 : Nat) : Int) - 1) = (n : Int) := by omega
      have eK : ((k : Int) - 1) = ((k - 1 : Nat) : Int) := by omega
      have hw2 := ways_ok (m + n + 1) n k (by omega) (by omega)
      have hp := ch_pas n k (by omega)
      rw [ta, if_neg hc]
      by_cases hx : a < ch n k
      · have hx' : (a : Int) < ((ch n k : Nat) : Int) := by omega
        have ih := things_ok n k a m (by omega) (by omega) hx
        rw [if_pos hx]
        simp only [S_things_at, bS_ap, sIf_ap, tOr_ap, tE_ap, bind2_ap, vr_ap, List.map_cons, List.map_nil, List.cons_append, List.nil_append, getE_s, getE_z, kV_v, kI_ap, k2_some, cmpR_eq, cmpR_ge, c0, c1, decide_false, kT_bl, kTO_f, kIf_f, bE_ap, kB_nx, fzI_nil, mP_ap, caE_ap, agE_ap, ag0_ap, binR_sub, subR_i, eN, kAg_v, kC_some, hw, h1, hw2, cmpR_lt, hx', decide_true, kIf_t, kP_some, sRet_ap, List.length_cons, List.length_nil, Nat.reduceAdd, Nat.reduceSub, List.replicate, ih, kR_v, kB_ret, fin_ret]
      · have hx' : ¬ (a : Int) < ((ch n k : Nat) : Int) := by omega
        have ih := things_ok n (k - 1) (ch (n + 1) k - 1 - a) m (by omega) (by omega) (by omega)
        have fin1 : ((ch (n + 1) k : Nat) : Int) - 1 - (a : Int) = ((ch (n + 1) k - 1 - a : Nat) : Int) := by omega
        rw [if_neg hx]
        have hlen : ∀ (n k a : Nat), (ta n k a).length ≤ k + n := by
          intro n
          induction n with
          | zero => intro k a; simp [ta]
          | succ n ih =>
            intro k a
            unfold ta
            split
            · simp
            · split
              · have := ih k a; omega
              · have := ih (k - 1) (ch (n + 1) k - 1 - a); simp; omega
        have hl := hlen n (k - 1) (ch (n + 1) k - 1 - a)
        have ea := add_tI (ta n (k - 1) (ch (n + 1) k - 1 - a)) [(n : Int)] (by simp; omega)
        simp only [S_things_at, bS_ap, sIf_ap, tOr_ap, tE_ap, bind2_ap, vr_ap, List.map_cons, List.map_nil, List.cons_append, List.nil_append, getE_s, getE_z, kV_v, kI_ap, k2_some, cmpR_eq, cmpR_ge, c0, c1, decide_false, kT_bl, kTO_f, kIf_f, bE_ap, kB_nx, fzI_nil, mP_ap, caE_ap, agE_ap, ag0_ap, binR_sub, subR_i, eN, eK, kAg_v, kC_some, hw, h1, hw2, cmpR_lt, hx', decide_true, kIf_t, kP_some, sRet_ap, List.length_cons, List.length_nil, Nat.reduceAdd, Nat.reduceSub, List.replicate, fin1, ih, tupE_ap, tup1, binR_add, ea, kR_v, kB_ret, fin_ret]
end Kd

/-! H79e: _law_far. -/
namespace Kd
open PySem PySem.Spec PyProof.Rows L2
def sg (b : Bool) : Int := if b = true then -1 else 1
theorem rngC_map (lo c : Int) (n : Nat) : rngC lo c n = (List.range n).map fun i => PyData.int (lo + (i : Nat) * c) := rfl
theorem pl_nil : ∀ n : Nat, pl n [] = 0
  | 0 => rfl
  | n + 1 => by simp [pl]
theorem kRg_dz {z : Int} (h : 0 ≤ z ∧ z ≤ 16777216) : kRg (some [I z, I 0, I (-1)]) = some (true, rngC z (-1) (z - 0).toNat) := kRg_3 (a := z) (b := 0) ⟨by omega, by omega⟩
theorem kRg_dn {n : Nat} (h : n ≤ 16777216) : kRg (some [I (n : Int), I 0, I (-1)]) = some (true, rngC n (-1) n) := by
  rw [kRg_dz (by omega)]
  congr 2
theorem far_ok (m n : Nat) (t : List Int) (hn : n ≤ 60) (h : Sb n t) : gf (tb (m + 2)) d__law_far [I n, .v (tI t)] = some (I (pl n t : Nat)) := by
  rw [gf_eq (sh__law_far (m + 1)) _ rfl]
  have L := forL_inv (step := stp (b1 5) (B__law_far_1 (tb (m + 1)))) (ds := rngC n (-1) n)
    (fun i ρ => ∃ (s r : List Int) (num : Int) (tu : Bool) (o : Option R), ρ = [some (I n), some (.v (tI t)), some (I (s.length : Nat)), some (I num), some (Bl tu), o] ∧ t = s ++ r ∧ Sb (n - i) s ∧ ((pl n t : Nat) : Int) = num + sg tu * ((pl (n - i) s : Nat) : Int))
    (ρ := [some (I n), some (.v (tI t)), some (I (t.length : Nat)), some (I 0), some (Bl false), none]) ⟨t, [], 0, false, none, rfl, by simp, h, by simp [sg]⟩ (by
    rintro i d ρ hd ⟨s, r, num, tu, o, rfl, ht, hs, hp⟩
    obtain ⟨rfl, hi⟩ := rngC_get hd
    obtain ⟨σ, hσ⟩ : ∃ σ, n - i = σ + 1 := ⟨n - i - 1, by omega⟩
    have hσ2 : n - (i + 1) = σ := by omega
    rw [hσ] at hs hp
    rw [hσ2]
    have hz : (n : Int) + (i : Nat) * (-1) = ((σ + 1 : Nat) : Int) := by omega
    rw [hz]
    have hl := sb_len hs
    rcases snoc_cases s with rfl | ⟨s, x, rfl⟩
    · refine ⟨_, ?_, ⟨[], r, num, tu, some (I ((σ + 1 : Nat) : Int)), rfl, ht, sb_nil _, by rw [hp, pl_nil, pl_nil]⟩⟩
      have q1 : ¬ ((([] : List Int).length : Nat) : Int) = ((σ + 1 : Nat) : Int) := by rw [List.length_nil]; omega
      generalize ((σ + 1 : Nat) : Int) = z at *
      simp at q1
      simp [B__law_far_1, q1]
    · have k0 : (0 : Int) < (((s ++ [x]).length : Nat) : Int) := by
        have : 0 < (s ++ [x]).length := by simp
        omega
      have ix : ixR (.v (tI t)) (I ((((s ++ [x]).length : Nat) : Int) - 1)) = some (I x) := by
        show (atI (t.map PyData.int) _).map R.v = _
        rw [atI_some (j := s.length) (x := PyData.int x) (by simp; try omega) (by rw [ht]; simp)]
        rfl
      by_cases hc : (s ++ [x]).length = σ + 1
      · have q1 : (((s ++ [x]).length : Nat) : Int) = ((σ + 1 : Nat) : Int) := by omega
        have q2 : ¬ (((s ++ [x]).length : Nat) : Int) < ((σ + 1 : Nat) : Int) := by omega
        refine ⟨_, ?_, ⟨[], s ++ [x] ++ r, num, tu, some (I ((σ + 1 : Nat) : Int)), rfl, by simpa using ht, sb_nil _, by rw [hp, pl_nil, pl, if_pos (.inr hc)]⟩⟩
        generalize ((σ + 1 : Nat) : Int) = z at *
        generalize (((s ++ [x]).length : Nat) : Int) = kk at *
        subst q1
        simp [B__law_far_1, k0]
      · have q1 : ¬ (((s ++ [x]).length : Nat) : Int) = ((σ + 1 : Nat) : Int) := by omega
        have q2 : (((s ++ [x]).length : Nat) : Int) < ((σ + 1 : Nat) : Int) := by omega
        have hc2 : ¬ ((s ++ [x]).length = 0 ∨ (s ++ [x]).length = σ + 1) := by simp at hc ⊢; omega
        rw [pl, if_neg hc2, lst_snoc] at hp
        by_cases hx : x < σ
        · rw [if_pos hx] at hp
          have q3 : ¬ x = ((σ + 1 : Nat) : Int) - 1 := by omega
          refine ⟨_, ?_, ⟨s ++ [x], r, num, tu, some (I ((σ + 1 : Nat) : Int)), rfl, ht, sb_low hs hx, hp⟩⟩
          generalize ((σ + 1 : Nat) : Int) = z at *
          generalize (((s ++ [x]).length : Nat) : Int) = kk at *
          simp [B__law_far_1, q1, q2, k0, ix, q3]
        · obtain ⟨hs', hxe⟩ := sb_high hs hx
          have q3 : x = ((σ + 1 : Nat) : Int) - 1 := by omega
          rw [if_neg hx, List.dropLast_concat] at hp
          have hw := choose_ok m (σ + 1) (s ++ [x]).length (by omega) (by omega)
          have hpas := ch_pas σ (s ++ [x]).length (by simp)
          obtain ⟨pa, pb⟩ := pl_ok hs'
          have e : (s ++ [x]).length - 1 = s.length := by simp
          rw [e] at hpas
          refine ⟨_, ?_, ⟨s, [x] ++ r, num + (((ch (σ + 1) (s ++ [x]).length : Nat) : Int) - 1) * sg tu, !tu, some (I ((σ + 1 : Nat) : Int)), rfl, by simpa using ht, hs', ?_⟩⟩
          · have e3 : (((s ++ [x]).length : Nat) : Int) - 1 = ((s.length : Nat) : Int) := by simp
            generalize ((σ + 1 : Nat) : Int) = z at *
            generalize (((s ++ [x]).length : Nat) : Int) = kk at *
            generalize ((ch (σ + 1) (s ++ [x]).length : Nat) : Int) = C at *
            have m1 : mulR (I (C - 1)) (I (-1)) = some (I ((C - 1) * (-1))) := mulR_ok (.inr (by omega))
            have m2 : mulR (I (C - 1)) (I 1) = some (I ((C - 1) * 1)) := mulR_ok (.inr (by omega))
            rw [e3] at ix
            cases tu with
            | true => simp [B__law_far_1, q1, q2, k0, ix, ← q3, hw, m1, e3, sg]
            | false => simp [B__law_far_1, q1, q2, k0, ix, ← q3, hw, m2, e3, sg]
          · rw [hp]
            have hle : pl σ s ≤ ch (σ + 1) (s ++ [x]).length - 1 := by omega
            rw [show ((ch (σ + 1) (s ++ [x]).length - 1 - pl σ s : Nat) : Int) = ((ch (σ + 1) (s ++ [x]).length : Nat) : Int) - 1 - ((pl σ s : Nat) : Int) by omega]
            cases tu <;> simp [sg] <;> omega)
  obtain ⟨ρ', e, s, r, num, tu, o, rfl, ht, hs, hp⟩ := L
  rw [rngC_length] at hs hp
  rw [Nat.sub_self] at hs hp
  have hs0 : s = [] := List.length_eq_zero_iff.mp (by have := sb_len hs; omega)
  subst hs0
  have e2 := kRg_dn (n := n) (by omega)
  have e4 : ((pl n t : Nat) : Int) = num := by rw [hp, pl]; simp
  rw [e4]
  generalize ((pl n t : Nat) : Int) = q at *
  simp -implicitDefEqProofs only [List.map_cons, List.map_nil, List.cons_append, List.nil_append, List.length_cons, List.length_nil, Nat.reduceAdd, Nat.reduceSub, List.replicate, S__law_far, bS_ap, sAsg_ap, fzI_nil, mP_ap, caE_ap, agE_ap, vr_ap, getE_s, getE_z, kV_v, ag0_ap, kAg_v, kC_some, oneR_1, lenR_tI, kP_some, kAs_some, st1_v, List.set_cons_succ, List.set_cons_zero, Option.map_some, kB_nx, kI_ap, kBo_ap, sFor_ap, iRng_ap, bind2_ap, k2_some, binR_sub, subR_i, Int.reduceSub, e2, kF_some]
  rw [e]
  rfl
end Kd

/-! H79f: seats. -/
namespace Kd
open PySem PySem.Spec PyProof.Rows L2
def chs (t : List Int) : List Nat := t.zipIdx.map fun p => ch p.1.toNat (p.2 + 1)
def seat (t : List Int) : Nat := (chs t).sum
theorem zipIdx_snoc (s : List Int) (x : Int) : (s ++ [x]).zipIdx = s.zipIdx ++ [(x, s.length)] := by
  rw [List.zipIdx_append]
  simp
theorem seat_snoc (s : List Int) (x : Int) : seat (s ++ [x]) = seat s + ch x.toNat (s.length + 1) := by
  unfold seat chs
  rw [zipIdx_snoc, List.map_append, List.sum_append]
  simp
theorem ch_mono : ∀ (a b k : Nat), a ≤ b → ch a k ≤ ch b k
  | a, 0, k, h => by have : a = 0 := by omega
                     subst this; exact Nat.le_refl _
  | a, b + 1, 0, h => by simp [ch_0]
  | a, b + 1, k + 1, h => by
    rcases Nat.lt_or_ge a (b + 1) with h | h
    · have := ch_mono a b (k + 1) (by omega)
      rw [ch]
      omega
    · have : a = b + 1 := by omega
      subst this
      exact Nat.le_refl _
theorem seat_lt : ∀ {n : Nat} (t : List Int) (l : Nat), t.length = l → Sb n t → seat t < ch n l
  | n, t, 0, hl, h => by
    have : t = [] := List.length_eq_zero_iff.mp hl
    subst this
    rw [ch_0]
    decide
  | n, t, l + 1, hl, h => by
    rcases snoc_cases t with rfl | ⟨s, x, rfl⟩
    · simp at hl
    · obtain ⟨a, b, c, d⟩ := sb_snoc h
      have hs : Sb x.toNat s := ⟨a.1, fun y hy => ⟨(a.2 y hy).1, by have := d y hy; omega⟩⟩
      have hl' : s.length = l := by simpa using hl
      have h1 := seat_lt s l hl' hs
      rw [seat_snoc, hl']
      have h2 : ch (x.toNat + 1) (l + 1) = ch x.toNat l + ch x.toNat (l + 1) := rfl
      have h3 := ch_mono (x.toNat + 1) n (l + 1) (by omega)
      omega
def cI (l : List Nat) : List Int := l.map fun c : Nat => (c : Int)
theorem cI_sum : ∀ l : List Nat, (cI l).sum = ((l.sum : Nat) : Int)
  | [] => rfl
  | a :: l => by
    have := cI_sum l
    unfold cI at *
    rw [List.map_cons, List.sum_cons, this, List.sum_cons]
    omega
theorem enumD_ints (t : List Int) : enumD (t.map .int) = t.zipIdx.map fun p => PyData.tuple [.int (p.2 : Nat), .int p.1] := by
  unfold enumD
  rw [List.zipIdx_map, List.map_map]
  rfl
theorem mem_zipIdx_lt {t : List Int} {p : Int × Nat} (h : p ∈ t.zipIdx) : p.2 < t.length ∧ p.1 ∈ t := by
  have := List.mem_zipIdx' h
  obtain ⟨a, b⟩ := this
  exact ⟨a, by rw [b]; exact List.getElem_mem a⟩
theorem sumR_chs (t : List Int) : sumR (.v (.list ((chs t).map fun c : Nat => PyData.int (c : Int)))) = some (I (seat t : Nat)) := by
  have e : ((chs t).map fun c : Nat => PyData.int (c : Int)) = (cI (chs t)).map PyData.int := by
    unfold cI
    rw [List.map_map]
    rfl
  rw [e, sumR_ints, cI_sum]
  rfl
theorem seat_ok (m M : Nat) (t : List Int) (hM : M ≤ 1000) (h : Sb M t) : gf (tb (m + 2)) d_seat_of [.v (tI t)] = some (I (seat t : Nat)) := by
  rw [gf_eq (sh_seat_of (m + 1)) _ rfl]
  have c := cmp_map (b := bT 2 (bC (b1 1) (bC (b1 2) bN))) (E := caE (agE (vr 2) (agE (bind2 (vr 1) (kI 1) (binR .Add)) ag0)) (gf (tb (m + 1)) d_ways_to_take)) (ρ := [some (.v (tI t)), none, none])
    (fun p : Int × Nat => PyData.tuple [.int (p.2 : Nat), .int p.1]) (fun p => PyData.int (ch p.1.toNat (p.2 + 1) : Nat)) t.zipIdx (by
    rintro ⟨x, i⟩ hx
    obtain ⟨h1, h2⟩ := mem_zipIdx_lt hx
    have hl := sb_len h
    have hb := h.2 x h2
    have hw := ways_ok m x.toNat (i + 1) (by omega) (by dsimp at h1; omega)
    have e1 : ((x.toNat : Nat) : Int) = x := by omega
    have e2 : (((i + 1 : Nat)) : Int) = (i : Int) + 1 := by omega
    rw [e1, e2] at hw
    refine ⟨_, rfl, I (ch x.toNat (i + 1) : Nat), ?_, rfl⟩
    generalize ((i : Nat) : Int) = z at *
    simp -implicitDefEqProofs only [caE_ap, agE_ap, vr_ap, List.set_cons_succ, List.set_cons_zero, getE_s, getE_z, kV_v, bind2_ap, kI_ap, k2_some, binR_add, addR_i, ag0_ap, kAg_v, kC_some, hw])
  have e3 : (t.zipIdx.map fun p => PyData.int (ch p.1.toNat (p.2 + 1) : Nat)) = (chs t).map fun c : Nat => PyData.int (c : Int) := by
    unfold chs
    rw [List.map_map]
    rfl
  rw [e3] at c
  have e4 : enumI (.v (tI t)) = some (true, t.zipIdx.map fun p => PyData.tuple [.int (p.2 : Nat), .int p.1]) := by
    show some (true, enumD (t.map PyData.int)) = _
    rw [enumD_ints]
  simp -implicitDefEqProofs only [List.map_cons, List.map_nil, List.cons_append, List.nil_append, List.length_cons, List.length_nil, Nat.reduceAdd, Nat.reduceSub, List.replicate, S_seat_of, bS_ap, sRet_ap, fzI_nil, mP_ap, caE_ap, agE_ap, lcE_ap, iEnum_ap, vr_ap, getE_z, kV_v, kIt_some, e4, wipeE_cons, wipeE_nil, List.set_cons_succ, List.set_cons_zero, kLc_some, c, ag0_ap, kAg_own, kC_some, oneR_1, sumR_chs, kP_some, kR_v, kB_ret, fin_ret]
theorem whileL_run {test : Env → Option Bool} {body : Env → Option Fl} (em : Nat → Env) : ∀ (j f : Nat), j < f → (∀ i, i < j → test (em i) = some true ∧ body (em i) = some (.nx (em (i + 1)))) → test (em j) = some false → whileL test body f (em 0) = some (.nx (em j))
  | 0, f + 1, _, _, h => by
    show ((test (em 0)).bind _) = _
    rw [h]
    rfl
  | j + 1, f + 1, hf, hs, h => by
    obtain ⟨a, b⟩ := hs 0 (by omega)
    show ((test (em 0)).bind _) = _
    rw [a]
    show ((body (em 0)).bind _) = _
    rw [b]
    exact whileL_run (fun i => em (i + 1)) j f (by omega) (fun i hi => hs (i + 1) (by omega)) h
@[simp] theorem sWhl_ap (c : EB) (B : ES) (ρ : Env) : sWhl c B ρ = whileL c B WF ρ := rfl
theorem setat_ok : ∀ (k m : Nat) (M : Nat) (t : List Int), M ≤ 1000 → k ≤ 100 → t.length = k → Sb M t → gf (tb (m + k + 2)) d_set_at_seat [I k, I (seat t : Nat)] = some (.v (tI t))
  | 0, m, M, t, hM, hk, hl, h => by
    have : t = [] := List.length_eq_zero_iff.mp hl
    subst this
    rw [gf_eq (sh_set_at_seat (m + 1)) _ rfl]
    simp -implicitDefEqProofs [S_set_at_seat]
    rfl
  | k + 1, m, M, t, hM, hk, hl, h => by
    show gf (tb (m + k + 2 + 1)) d_set_at_seat _ = _
    rw [gf_eq (sh_set_at_seat (m + k + 2)) _ rfl]
    rcases snoc_cases t with rfl | ⟨s, x, rfl⟩
    · simp at hl
    · have hl' : s.length = k := by simpa using hl
      obtain ⟨a, b, c, d⟩ := sb_snoc h
      have hs : Sb x.toNat s := ⟨a.1, fun y hy => ⟨(a.2 y hy).1, by have := d y hy; omega⟩⟩
      have hkx := sb_len hs
      have hlt := seat_lt s k hl' hs
      rw [seat_snoc, hl']
      obtain ⟨X, hX⟩ : ∃ X, X = x.toNat := ⟨_, rfl⟩
      have hxX : x = (X : Int) := by omega
      rw [← hX] at hlt hkx ⊢
      subst hxX
      have c0 : ¬ ((k + 1 : Nat) : Int) = 0 := by omega
      have eK : ((k + 1 : Nat) : Int) - 1 = (k : Int) := by omega
      have L := whileL_run (test := tE (bind2 (caE (agE (bind2 (vr 2) (kI 1) (binR .Add)) (agE (vr 0) ag0)) (gf (tb (m + k + 2)) d_ways_to_take)) (vr 1) (cmpR .LtE))) (body := B_set_at_seat_1 (tb (m + k + 2)))
        (fun i => [some (I ((k + 1 : Nat) : Int)), some (I ((seat s + ch X (k + 1) : Nat) : Int)), some (I ((k + i : Nat) : Int))]) (X - k) WF (by show X - k < 100000; omega) (fun i hi => by
          have hw := ways_ok (m + k + 1) (k + i + 1) (k + 1) (by omega) (by omega)
          have hm := ch_mono (k + i + 1) X (k + 1) (by omega)
          have e1 : (((k + i + 1 : Nat)) : Int) = ((k + i : Nat) : Int) + 1 := by omega
          have e2 : (((k + (i + 1) : Nat)) : Int) = ((k + i : Nat) : Int) + 1 := by omega
          rw [e1] at hw
          have le : ((ch (k + i + 1) (k + 1) : Nat) : Int) ≤ ((seat s + ch X (k + 1) : Nat) : Int) := by omega
          simp only [e2]
          generalize ((k + i : Nat) : Int) = z at *
          generalize ((k + 1 : Nat) : Int) = K at *
          constructor
          · simp -implicitDefEqProofs only [tE_ap, bind2_ap, caE_ap, agE_ap, vr_ap, getE_s, getE_z, kV_v, kI_ap, k2_some, binR_add, addR_i, ag0_ap, kAg_v, kC_some, hw, cmpR_le, le, decide_true, kT_bl]
          · simp -implicitDefEqProofs only [B_set_at_seat_1, bS_ap, sAug_ap, getE_s, getE_z, kI_ap, kAu_some, List.set_cons_succ, List.set_cons_zero, kB_nx, bE_ap]) (by
          have hw := ways_ok (m + k + 1) (X + 1) (k + 1) (by omega) (by omega)
          have h2 : ch (X + 1) (k + 1) = ch X k + ch X (k + 1) := rfl
          have e1 : (((X + 1 : Nat)) : Int) = ((k + (X - k) : Nat) : Int) + 1 := by omega
          rw [e1] at hw
          have le : ¬ ((ch (X + 1) (k + 1) : Nat) : Int) ≤ ((seat s + ch X (k + 1) : Nat) : Int) := by omega
          generalize ((k + (X - k) : Nat) : Int) = z at *
          generalize ((k + 1 : Nat) : Int) = K at *
          simp -implicitDefEqProofs only [tE_ap, bind2_ap, caE_ap, agE_ap, vr_ap, getE_s, getE_z, kV_v, kI_ap, k2_some, binR_add, addR_i, ag0_ap, kAg_v, kC_some, hw, cmpR_le, le, decide_false, kT_bl])
      simp only [Nat.add_zero] at L
      rw [show k + (X - k) = X by omega] at L
      have hw := ways_ok (m + k + 1) X (k + 1) (by omega) (by omega)
      have ih := setat_ok k m X s (by omega) (by omega) hl' hs
      have e5 : ((seat s + ch X (k + 1) : Nat) : Int) - ((ch X (k + 1) : Nat) : Int) = ((seat s : Nat) : Int) := by omega
      have ea := add_tI s [(X : Int)] (by simp; omega)
      generalize ((k + 1 : Nat) : Int) = K at *
      generalize ((seat s + ch X (k + 1) : Nat) : Int) = Z at *
      simp -implicitDefEqProofs only [List.map_cons, List.map_nil, List.cons_append, List.nil_append, List.length_cons, List.length_nil, Nat.reduceAdd, Nat.reduceSub, List.replicate, S_set_at_seat, bS_ap, sIf_ap, tE_ap, bind2_ap, vr_ap, getE_s, getE_z, kV_v, kI_ap, k2_some, cmpR_eq, c0, decide_false, kT_bl, kIf_f, bE_ap, kB_nx, sAsg_ap, fzI_nil, mP_ap, binR_sub, subR_i, eK, kP_some, kAs_some, st1_v, List.set_cons_succ, List.set_cons_zero, Option.map_some, sWhl_ap, L, sRet_ap, caE_ap, agE_ap, ag0_ap, kAg_v, kC_some, hw, e5, ih, tupE_ap, tup1, binR_add, ea, kR_v, kB_ret, fin_ret]
end Kd

/-! H79g: _law_exchanged, _law_taken. -/
namespace Kd
open PySem PySem.Spec PyProof.Rows L2
def exB2 (a b : List Int) : Bool := decide ((a.filter fun x => !decide (x ∈ b)).length = 1) && decide (a.length = b.length)
theorem exchanged_ok (m : Nat) (a b : List Int) : gf (tb (m + 1)) d__law_exchanged [.v (tI a), .v (tI b)] = some (Bl (exB2 a b)) := by
  rw [gf_eq (sh__law_exchanged m) _ rfl]
  have c := cmp_filter (b := b1 2) (F := tE (bind2 (vr 2) (vr 1) (cmpR .NotIn))) (E := vr 2) (ρ := [some (.v (tI a)), some (.v (tI b)), none]) PyData.int PyData.int (fun x => !decide (x ∈ b)) a (by
    intro x hx
    refine ⟨_, rfl, ?_, fun _ => ⟨I x, ?_, rfl⟩⟩
    · simp -implicitDefEqProofs only [tE_ap, bind2_ap, vr_ap, List.set_cons_succ, List.set_cons_zero, getE_s, getE_z, kV_v, k2_some, nin_ints, kT_bl]
    · simp -implicitDefEqProofs only [vr_ap, List.set_cons_succ, List.set_cons_zero, getE_s, getE_z, kV_v])
  have e : seqI (.v (tI a)) = some (true, a.map PyData.int) := rfl
  have e2 : ∀ (x : List Int), lenR (.v (.list (x.map PyData.int))) = some (I (x.length : Nat)) := fun x => by
    show some (I ((x.map PyData.int).length : Nat)) = _
    rw [List.length_map]
  simp -implicitDefEqProofs only [List.map_cons, List.map_nil, List.cons_append, List.nil_append, List.length_cons, List.length_nil, Nat.reduceAdd, Nat.reduceSub, List.replicate, S__law_exchanged, bS_ap, sRet_ap, fzI_nil, mP_ap, vAnd_ap, bind2_ap, caE_ap, agE_ap, lcE_ap, iSeq_ap, vr_ap, getE_z, getE_s, kV_v, kIt_some, e, wipeE_cons, wipeE_nil, List.set_cons_succ, List.set_cons_zero, kLc_some, c, ag0_ap, kAg_own, kAg_v, kC_some, oneR_1, e2, kI_ap, k2_some, cmpR_eq]
  unfold exB2
  have q : ∀ (n : Nat), decide ((n : Int) = 1) = decide (n = 1) := fun n => by
    by_cases h : n = 1
    · subst h; rfl
    · have : ¬ (n : Int) = 1 := by omega
      simp [h, this]
  have q2 : decide (((a.length : Nat) : Int) = ((b.length : Nat) : Int)) = decide (a.length = b.length) := by
    by_cases h : a.length = b.length
    · simp [h]
    · have : ¬ ((a.length : Nat) : Int) = ((b.length : Nat) : Int) := by omega
      simp [h, this]
  rw [q]
  cases decide ((a.filter fun x => !decide (x ∈ b)).length = 1) with
  | false => simp -implicitDefEqProofs only [kVA_f, kP_some, kR_v, kB_ret, fin_ret, Bool.false_and]
  | true =>
    simp -implicitDefEqProofs only [kVA_t, bind2_ap, caE_ap, agE_ap, vr_ap, getE_z, getE_s, kV_v, ag0_ap, kAg_v, kC_some, oneR_1, lenR_tI, k2_some, cmpR_eq, kP_some, kR_v, kB_ret, fin_ret, Bool.true_and, q2]
def kMc (o : Option (Bool × List D)) (i : Nat) (vs : List Nat) (b : D → Env → Option Env) (A : EE) (ρ : Env) : Option (R × Env) := o.bind fun s => if s.1 = true then (ownAt ρ i).bind fun ds => (compP i vs b A ρ s.2 ds).map fun t => (.own t.1, ρ.set i (some (.own t.2))) else none
@[simp] theorem mComp_ap (i : Nat) (It : EI') (vs : List Nat) (b : D → Env → Option Env) (A : EE) (ρ : Env) : mComp i It vs b A ρ = kMc (It ρ) i vs b A ρ := rfl
def kMo (o : Option (List D × List D)) (i : Nat) (ρ : Env) : Option (R × Env) := o.map fun t => (.own t.1, ρ.set i (some (.own t.2)))
theorem kMc_some (ds es : List D) (i : Nat) (vs : List Nat) (b : D → Env → Option Env) (A : EE) (ρ : Env) (h : ownAt ρ i = some es) : kMc (some (true, ds)) i vs b A ρ = kMo (compP i vs b A ρ ds es) i ρ := by
  unfold kMc
  rw [Option.bind_some, if_pos rfl, h]
  rfl
@[simp] theorem kMo_some (t : List D × List D) (i : Nat) (ρ : Env) : kMo (some t) i ρ = some (.own t.1, ρ.set i (some (.own t.2))) := rfl
def kMl (o : Option (R × Env)) (g : List R → Option R) : Option (R × Env) := o.bind fun s => (g [argR s.1]).map fun r => (r, s.2)
@[simp] theorem mCall_ap (M : EM) (g : List R → Option R) (ρ : Env) : mCall M g ρ = kMl (M ρ) g := rfl
@[simp] theorem kMl_own (ds : List D) (ρ : Env) (g : List R → Option R) : kMl (some (.own ds, ρ)) g = kP (g [.v (.list ds)]) ρ := rfl
theorem eraseIdx_map' {α β : Type} (f : α → β) : ∀ (l : List α) (j : Nat), (l.map f).eraseIdx j = (l.eraseIdx j).map f
  | [], j => by simp
  | a :: l, 0 => rfl
  | a :: l, j + 1 => by simp [eraseIdx_map' f l j]
theorem erase_perm {α : Type} : ∀ (l : List α) (j : Nat) (h : j < l.length), (l[j] :: l.eraseIdx j).Perm l
  | [], j, h => by simp at h
  | a :: l, 0, h => .refl _
  | a :: l, j + 1, h => by
    have := erase_perm l j (by simpa using h)
    exact (List.Perm.swap _ _ _).trans (this.cons a)
theorem popAt_ok {os : List Int} {j : Nat} (hj : j < os.length) (hl : os.length ≤ 1000) : popAtD (os.map .int) (j : Int) = some (.int os[j], (os.eraseIdx j).map .int) := by
  unfold popAtD
  rw [if_pos ⟨by omega, by omega⟩]
  have e : ixN (os.map PyData.int).length (j : Int) = some j := by
    unfold ixN
    rw [List.length_map, if_pos (by omega), if_pos (by omega)]
    simp
  rw [e, Option.bind_some, List.getElem?_map, List.getElem?_eq_getElem hj]
  simp [eraseIdx_map']
def takeF : EE := bind2 (caE (agE (bind2 (vr 0) (vr 4) ixR) ag0) (oneR intR)) (caE (agE (vr 3) ag0) (oneR lenR)) (binR .Mod)
theorem comp_taken (ns : List Int) (hd : Dr ns) (k n : Int) (o1 o2 : Option R) : ∀ (is : List Nat) (os : List Int), is.length ≤ os.length → os.length ≤ 1000 → (∀ i ∈ is, i < ns.length) →
    ∃ outs rest : List Int, compP 3 [4] (b1 4) takeF [some (.v (.list (ns.map .int))), some (I k), some (I n), o1, o2] (is.map fun i : Nat => PyData.int (0 + (i : Int))) (os.map .int) = some (outs.map .int, rest.map .int) ∧ outs.length = is.length ∧ (outs ++ rest).Perm os
  | [], os, _, _, _ => ⟨[], os, rfl, rfl, .refl _⟩
  | i :: is, os, hl, hm, hi => by
    have h1 : i < ns.length := hi i List.mem_cons_self
    have hx := hd ns[i] (List.getElem_mem h1)
    obtain ⟨j, hj⟩ : ∃ j : Nat, (j : Int) = ns[i] % (os.length : Int) := ⟨(ns[i] % (os.length : Int)).toNat, by
      have := Int.emod_nonneg ns[i] (b := (os.length : Int)) (by simp at hl; omega)
      omega⟩
    have hj2 : j < os.length := by
      have := Int.emod_lt_of_pos ns[i] (b := (os.length : Int)) (by simp at hl; omega)
      omega
    have hp := popAt_ok hj2 hm
    have hle : (os.eraseIdx j).length = os.length - 1 := by rw [List.length_eraseIdx]; simp [hj2]
    obtain ⟨outs, rest, e, h2, h3⟩ := comp_taken ns hd k n o1 o2 is (os.eraseIdx j) (by simp at hl; omega) (by omega) fun a ha => hi a (List.mem_cons_of_mem _ ha)
    refine ⟨os[j] :: outs, rest, ?_, by simp [h2], ?_⟩
    · rw [List.map_cons, compP]
      have ea : atI (ns.map PyData.int) (0 + (i : Nat) : Int) = some (.int ns[i]) := atI_some (j := i) (by omega) (by rw [List.getElem?_map, List.getElem?_eq_getElem h1]; rfl)
      have e2 : lenR (.bor (os.map PyData.int)) = some (I (os.length : Nat)) := by
        show some (I ((os.map PyData.int).length : Nat)) = _
        rw [List.length_map]
      have e3 : modR (I ns[i]) (I (os.length : Nat)) = some (I (ns[i] % (os.length : Nat))) := modR_ok (by omega)
      have e4 : takeF [some (.v (.list (ns.map .int))), some (I k), some (I n), some (.own (os.map .int)), some (I (0 + (i : Nat)))] = some (I j) := by
        unfold takeF
        simp -implicitDefEqProofs only [bind2_ap, caE_ap, agE_ap, vr_ap, getE_s, getE_z, kV_v, k2_some, ixR_list, ea, Option.map_some, ag0_ap, kAg_v, kC_some, oneR_1, intR_i, kV_own, kAg_bor, e2, binR_mod, e3, hj]
      have eb : b1 4 (PyData.int (0 + (i : Int))) (wipeE (List.set [some (.v (.list (ns.map .int))), some (I k), some (I n), o1, o2] 3 (some (.own (os.map .int)))) [4]) = some [some (.v (.list (ns.map .int))), some (I k), some (I n), some (.own (os.map .int)), some (I (0 + (i : Nat)))] := rfl
      rw [eb, Option.bind_some, e4, Option.bind_some]
      have et : toInt (I (j : Int)) = some (j : Int) := rfl
      rw [et, Option.bind_some]
      rw [hp, Option.bind_some]
      dsimp only
      rw [e]
      rfl
    · refine List.Perm.trans ?_ (erase_perm os j hj2)
      exact List.Perm.cons _ h3
theorem rg_nodup (n : Nat) : (rg n).Nodup := by
  unfold rg
  refine List.Pairwise.map _ (fun a b h => ?_) List.nodup_range
  omega
theorem rg_mem {n : Nat} {x : Int} (h : x ∈ rg n) : 0 ≤ x ∧ x < n := by
  unfold rg at h
  obtain ⟨i, hi, rfl⟩ := List.mem_map.mp h
  rw [List.mem_range] at hi
  omega
theorem taken_ok (m : Nat) (ns : List Int) (hd : Dr ns) (k n : Nat) (hk : k ≤ ns.length) (hkn : k ≤ n) (hn : n ≤ 1000) : ∃ t : List Int, Sb n t ∧ t.length = k ∧ gf (tb (m + 1)) d__law_taken [.v (.list (ns.map .int)), I k, I n] = some (.v (tI t)) := by
  obtain ⟨outs, rest, e, h2, h3⟩ := comp_taken ns hd k n (some (.own ((rg n).map .int))) none (List.range k) (rg n) (by simp [hkn]) (by simp [hn]) fun i hi => by rw [List.mem_range] at hi; omega
  have nd : outs.Nodup := by
    have := (h3.nodup_iff).mpr (rg_nodup n)
    exact (List.nodup_append.mp this).1
  have mem : ∀ x ∈ outs, 0 ≤ x ∧ x < n := fun x hx => rg_mem (h3.subset (List.mem_append_left _ hx))
  let t := outs.mergeSort fun a b => decide (a ≤ b)
  have tp : t.Perm outs := List.mergeSort_perm _ _
  have ts : t.Pairwise (· < ·) := by
    have h1 : t.Pairwise fun a b => decide (a ≤ b) = true := List.pairwise_mergeSort (fun a b c h1 h2 => by simp at *; omega) (fun a b => by simp; omega) outs
    have h4 : t.Pairwise (· ≠ ·) := tp.nodup_iff.mpr nd
    refine (h1.and h4).imp fun {a b} h => ?_
    have := h.1
    have := h.2
    simp at *
    omega
  have so := sort_ints (x := .v (.list (outs.map .int))) (ns := outs) (out := t) rfl tp ts
  refine ⟨t, ⟨ts, fun x hx => mem x (tp.subset hx)⟩, by rw [tp.length_eq, h2]; simp, ?_⟩
  rw [gf_eq (sh__law_taken m) _ rfl]
  have e1 := kRL_ok (k := n) (by omega)
  have e2 := kRg_nat (n := k) (by omega)
  rw [show (List.range k).map (fun i : Nat => PyData.int (0 + (i : Int))) = rngD 0 k from rfl] at e
  have e5 := kMc_some (rngD 0 k) ((rg n).map .int) 3 [4] (b1 4) takeF [some (.v (.list (ns.map .int))), some (I k), some (I n), some (.own ((rg n).map .int)), none] rfl
  rw [e] at e5
  unfold takeF at e5
  simp -implicitDefEqProofs only [List.map_cons, List.map_nil, List.cons_append, List.nil_append, List.length_cons, List.length_nil, Nat.reduceAdd, Nat.reduceSub, List.replicate, S__law_taken, bS_ap, sAsg_ap, fzI_nil, mP_ap, rgL_ap, r1E_ap, vr_ap, getE_z, getE_s, kV_v, e1, kP_some, kAs_some, st1_own, List.set_cons_succ, List.set_cons_zero, Option.map_some, kB_nx, sRet_ap, mCall_ap, mComp_ap, iRng_ap, agE_ap, ag0_ap, kAg_v, e2, e5, kMo_some, kMl_own, oneR_1, so, tupleR_list, kR_v, kB_ret, fin_ret]
  rfl
end Kd

/-! H79h: what is called, at one level; the law's last loop. -/
namespace Kd
open PySem PySem.Spec PyProof.Rows L2
theorem cell70 (ns : List Int) (k : Nat) : ∃ n : Int, gf (tb 70) d__law_cell [.scr ns, I k] = some (I n) := by
  rw [gf_eq (sh__law_cell 69) _ rfl]
  exact cell_ok (gf (tb 69) d__law_is_integer) (gf (tb 69) d__law_is) ns k
theorem draws70 (c : Int) (n : Nat) (hn : n ≤ 1000) : ∃ ns : List Int, ns.length = n ∧ Dr ns ∧ gf (tb 70) d__law_draws [I c, I n] = some (.own (ns.map .int)) := by
  rw [gf_eq (sh__law_draws 69) _ rfl]
  exact draws_ok (gf (tb 69) d__law_is_integer) (gf (tb 69) d__law_is) c n hn
theorem isint70 (m : Nat) (n : Int) : gf (tb (m + 1)) d__law_is_integer [I n] = some (Bl true) := by
  rw [gf_eq (sh__law_is_integer m) _ rfl]
  exact isint_ok (gf (tb 69) d__law_is_integer) (gf (tb 69) d__law_is) n
theorem is70 (d : D) (h : gdD 4 d = true) : gf (tb 70) d__law_is [.v d, .v d] = some (Bl true) :=
  is_ok (gi := fun n => gf (tb n) d__law_is_integer) (gs := fun n => gf (tb n) d__law_is) (fun n rs ho => by
    show gf (tb (n + 1)) d__law_is rs = _
    rw [gf_eq (sh__law_is n) _ ho]
    rfl) (fun n m => isint70 n m) 4 64 d h
theorem isI70 (n : Int) : gf (tb 70) d__law_is [I n, I n] = some (Bl true) := is70 _ (by simp only [gdD])
theorem gdD_tI (n : Nat) (t : List Int) (h : t.length ≤ 16777216) : gdD (n + 1) (tI t) = true := by
  unfold tI
  simp only [gdD, Bool.and_eq_true, decide_eq_true_eq, List.length_map, List.all_eq_true]
  refine ⟨fun d hd => ?_, h⟩
  obtain ⟨x, _, rfl⟩ := List.mem_map.mp hd
  cases n <;> simp only [gdD]
theorem isT70 (t : List Int) (h : t.length ≤ 16777216) : gf (tb 70) d__law_is [.v (tI t), .v (tI t)] = some (Bl true) := is70 _ (gdD_tI 3 t h)
theorem place70 (n : Nat) (t : List Int) (hn : n ≤ 60) (h : Sb n t) : gf (tb 70) d_place_in_row [I n, .v (tI t)] = some (I (pl n t : Nat)) := by
  have := place_ok n (68 - n) t hn h
  rwa [show 68 - n + n + 2 = 70 by omega] at this
theorem things70 (n k a : Nat) (hn : n ≤ 60) (hk : k ≤ n) (ha : a < ch n k) : gf (tb 70) d_things_at [I n, I k, I a] = some (.v (tI (ta n k a))) := by
  have := things_ok n k a (68 - n) hn hk ha
  rwa [show 68 - n + n + 2 = 70 by omega] at this
theorem thingsN70 (n k : Nat) (a : Int) (hn : n ≤ 60) (hk : k ≤ n) (ha : ((ch n k : Nat) : Int) ≤ a) : gf (tb 70) d_things_at [I n, I k, I a] = some Non := things_none n k 68 a hn hk ha
theorem far70 (n : Nat) (t : List Int) (hn : n ≤ 60) (h : Sb n t) : gf (tb 70) d__law_far [I n, .v (tI t)] = some (I (pl n t : Nat)) := far_ok 68 n t hn h
theorem row70 (n k : Nat) (hn : n ≤ 12) (hk : k ≤ n) : gf (tb 70) d__law_row [I n, I k] = some (.own ((row n k).map tI)) := by
  have := lawrow_ok n k (69 - n) hk hn
  rwa [show 69 - n + n + 1 = 70 by omega] at this
theorem exch70 (n k : Nat) (hn : n ≤ 12) (hk : k ≤ n) : gf (tb 70) d_exchange_row [I n, I k] = some (.v (.tuple ((row n k).map tI))) := by
  have := exchange_ok n k (69 - n) hk hn
  rwa [show 69 - n + n + 1 = 70 by omega] at this
theorem sets70 (n : Nat) (hn : n ≤ 7) : gf (tb 70) d__law_sets [I n] = some (.own ((sets n).map tI)) := by
  rw [gf_eq (sh__law_sets 69) _ rfl]
  exact sets_ok n hn
theorem seat70 (M : Nat) (t : List Int) (hM : M ≤ 1000) (h : Sb M t) : gf (tb 70) d_seat_of [.v (tI t)] = some (I (seat t : Nat)) := seat_ok 68 M t hM h
theorem setat70 (k M : Nat) (t : List Int) (hM : M ≤ 1000) (hk : k ≤ 60) (hl : t.length = k) (h : Sb M t) : gf (tb 70) d_set_at_seat [I k, I (seat t : Nat)] = some (.v (tI t)) := by
  have := setat_ok k (68 - k) M t hM (by omega) hl h
  rwa [show 68 - k + k + 2 = 70 by omega] at this
theorem choose70 (n k : Nat) (hn : n < 2 ^ 62) (hk : k ≤ 16777216) : gf (tb 70) d__law_choose [I n, I k] = some (I (ch n k : Nat)) := choose_ok 69 n k hn hk
theorem taken70 (ns : List Int) (hd : Dr ns) (k n : Nat) (hk : k ≤ ns.length) (hkn : k ≤ n) (hn : n ≤ 1000) : ∃ t : List Int, Sb n t ∧ t.length = k ∧ gf (tb 70) d__law_taken [.v (.list (ns.map .int)), I k, I n] = some (.v (tI t)) := taken_ok 69 ns hd k n hk hkn hn
theorem exchd70 (a b : List Int) : gf (tb 70) d__law_exchanged [.v (tI a), .v (tI b)] = some (Bl (exB2 a b)) := exchanged_ok 69 a b
/-! the sets of k of seven things, by their reverse -/
def sk (k : Nat) : List (List Int) := (sets 7).filter fun t => decide (t.length = k)
def lexS (a b : List Int) : Bool := lexB a.reverse b.reverse
def insL (le : List Int → List Int → Bool) (a : List Int) : List (List Int) → List (List Int)
  | [] => [a]
  | b :: r => if le a b = true then a :: b :: r else b :: insL le a r
def ok (k : Nat) : List (List Int) := (sk k).foldr (insL lexS) []
def pR (t : List Int) : D := .tuple [tI t.reverse, tI t]
def sbB (n : Nat) : List Int → Bool
  | [] => true
  | [x] => decide (0 ≤ x ∧ x < n)
  | x :: y :: r => decide (0 ≤ x ∧ x < n ∧ x < y) && sbB n (y :: r)
theorem sbB_ok : ∀ {n : Nat} {t : List Int}, sbB n t = true → Sb n t
  | n, [], _ => sb_nil n
  | n, [x], h => by
    have h' : decide (0 ≤ x ∧ x < (n : Int)) = true := h
    rw [decide_eq_true_eq] at h'
    exact ⟨List.pairwise_singleton .., fun y hy => by simp at hy; subst hy; exact h'⟩
  | n, x :: y :: r, h => by
    have h' : (decide (0 ≤ x ∧ x < (n : Int) ∧ x < y) && sbB n (y :: r)) = true := h
    rw [Bool.and_eq_true, decide_eq_true_eq] at h'
    obtain ⟨⟨a, b, c⟩, e⟩ := h'
    obtain ⟨p, q⟩ := sbB_ok e
    refine ⟨List.pairwise_cons.mpr ⟨fun z hz => ?_, p⟩, fun z hz => ?_⟩
    · rcases List.mem_cons.mp hz with rfl | hz
      · exact c
      · have := (List.pairwise_cons.mp p).1 z hz
        omega
    · rcases List.mem_cons.mp hz with rfl | hz
      · exact ⟨a, b⟩
      · exact q z hz
def seatsB (k : Nat) : Bool := (ok k).isPerm (sk k) && strictB ((ok k).map pR) && (ok k).all (fun t => sbB 7 t && decide (t.length = k)) && decide ((ok k).map seat = List.range (ok k).length)
theorem seats_all : ∀ k : Nat, k ≤ 6 → seatsB k = true := by decide +kernel
theorem seat_at {k : Nat} (hk : k ≤ 6) {i : Nat} {t : List Int} (h : (ok k)[i]? = some t) : Sb 7 t ∧ t.length = k ∧ seat t = i := by
  have hB := seats_all k hk
  unfold seatsB at hB
  simp only [Bool.and_eq_true, List.all_eq_true, decide_eq_true_eq] at hB
  have a := hB.1.2 t (List.mem_of_getElem? h)
  refine ⟨sbB_ok a.1, a.2, ?_⟩
  have e : ((ok k).map seat)[i]? = some (seat t) := by rw [List.getElem?_map, h]; rfl
  rw [hB.2] at e
  obtain ⟨hi, e2⟩ := List.getElem?_eq_some_iff.mp e
  rw [List.getElem_range] at e2
  exact e2.symm
theorem loop1 (k : Nat) (hk : k ≤ 6) (a0 a1 a2 a4 a5 a6 a7 a8 a9 a10 a11 a12 : Option R) : ∃ b8 b11, forL (stp (bT 2 (bC (b1 8) (bC (b1 11) bN))) (B_law_1 (tb 70))) (enumD ((ok k).map pR)) [a0, a1, a2, some (I k), a4, a5, a6, a7, a8, a9, a10, a11, a12] = some (.nx [a0, a1, a2, some (I k), a4, a5, a6, a7, b8, a9, a10, b11, a12]) := by
  obtain ⟨ρ', e, b8, b11, rfl⟩ := forL_inv (step := stp (bT 2 (bC (b1 8) (bC (b1 11) bN))) (B_law_1 (tb 70))) (ds := enumD ((ok k).map pR)) (fun i ρ => ∃ b8 b11, ρ = [a0, a1, a2, some (I k), a4, a5, a6, a7, b8, a9, a10, b11, a12]) (ρ := [a0, a1, a2, some (I k), a4, a5, a6, a7, a8, a9, a10, a11, a12]) ⟨a8, a11, rfl⟩ (by
    rintro i d ρ hd ⟨b8, b11, rfl⟩
    obtain ⟨d', hd', rfl⟩ := enumD_at hd
    rw [List.getElem?_map] at hd'
    obtain ⟨t, ht, rfl⟩ := Option.map_eq_some_iff.mp hd'
    obtain ⟨h1, h2, h3⟩ := seat_at hk ht
    have s1 := seat70 7 t (by omega) h1
    have s2 := setat70 k 7 t (by omega) (by omega) h2 h1
    have s3 := isI70 (seat t : Nat)
    have s4 := isT70 t (by omega)
    rw [h3] at s1 s2 s3
    refine ⟨_, ?_, some (I (i : Nat)), some (.v (pR t)), rfl⟩
    have ix : ixR (.v (pR t)) (I 1) = some (.v (tI t)) := rfl
    generalize ((k : Nat) : Int) = kk at *
    generalize ((i : Nat) : Int) = ii at *
    simp -implicitDefEqProofs only [bS_ap, kB_nx, kB_ret, kB_bk, kB_ct, bE_ap, sIf_ap, ifE_ap, kIf_t, kIf_f, sAsg_ap, kAs_some, fzI_nil, fzI_cons, mP_ap, kP_some, st1_v, st1_own, stB_v, stB_own, sDoc_ap, sBrk_ap, sCnt_ap, sRet0_ap, sRet_ap, kR_v, kR_own, sRetN_ap, kRN_own, kRN_v, fin_ret, fin_nx, sAug_ap, kAu_some, getE_z, getE_s, vr_ap, kV_v, kV_own, kV_bor, kV_scr, frz1_ap, kZ_own, kZ_v, kZ_bor, ownAt_ap, kOw_own, wipeE_nil, wipeE_cons, kI_ap, kBo_ap, kN_ap, kS_ap, bind2_ap, k2_some, ntE_ap, kNt_bl, ngE_ap, kNg_i, tupE_ap, kTu_0, kTu_1, kTu_2, kTu_3, kTu_4, kTu_5, kTu_6, kTu_7, kTu_8, lstE_ap, kLs_0, kLs_1, kLs_2, kLs_3, ag0_ap, agE_ap, kAg_v, kAg_own, kAg_bor, kAg_scr, oN_ap, oS_ap, kO_i, cutE_ap, kCt_some, slR_tup, slR_list, slR_bor, slR_own, k1_some, rvE_ap, revR_tup, revR_list, revR_bor, revR_own, caE_ap, kC_some, oneR_1, isE_ap, vAnd_ap, kVA_t, kVA_f, vOr_ap, kVO_t, kVO_f, tE_ap, kT_bl, kT_i, kT_non, kT_tup, kT_list, kT_bor, tNot_ap, kTN_some, tAnd_ap, kTA_t, kTA_f, tOr_ap, kTO_t, kTO_f, fTrue_ap, binR_add, binR_sub, binR_mul, binR_div, binR_mod, binR_pow, addR_i, subR_i, cmpR_lt, cmpR_le, cmpR_gt, cmpR_ge, cmpR_eq, cmpR_ne, cmpR_is, cmpR_isn, isNone_non, isNone_i, isNone_b, isNone_t, addR_tup, addR_oo, addR_bo, ixR_bor, ixR_own, ixR_tup, ixR_list, ixR_scr, lenR_tup, lenR_list, lenR_bor, lenR_scr, absR_i, intR_i, minA_2, maxA_2, tupleR_tup, tupleR_list, tupleR_bor, listR_tup, listR_list, listR_bor, sumR_ints, kIt_some, iSeq_ap, iEnum_ap, iRev_ap, seqI_tup, seqI_list, seqI_own, seqI_bor, enumI_tup, enumI_list, enumI_own, enumI_bor, revI_tup, revI_list, revI_own, revI_bor, iRng_ap, kB1_some, stp_ap, sFor_ap, kF_some, b1_ap, bT_2, bT_3, bN_ap, bC_ap, kBC_some, lcE_ap, kLc_some, chainR_ap, kCh_some, kCh2_t, kCh2_f, sApp_ap, kAp_v, kAp_own, isi_ii, isi_ib, isi_is, isi_it, isi_bi, isi_bb, isi_bt, isi_ti, isi_tb, isi_ts, isi_tt, isi_ni, isi_nb, isi_ns, isi_nt, isi_ss, isi_si, isi_sb, isi_st, allLR_b, anyLR_b, in_ints, nin_ints, rgT_ap, rgL_ap, r1E_ap, lenR_tI, List.map_cons, List.map_nil, List.cons_append, List.nil_append, List.length_cons, List.length_nil, Nat.reduceAdd, Nat.reduceSub, List.replicate, List.set_cons_succ, List.set_cons_zero, Option.map_some, if_true, B_law_1, ix, s1, s2, s3, s4, Bool.not_true])
  exact ⟨b8, b11, e⟩
end Kd

/-! H79i: the law's loops. -/
namespace Kd
open PySem PySem.Spec PyProof.Rows L2
theorem lenR_ints (x : List Int) : lenR (.v (.list (x.map PyData.int))) = some (I (x.length : Nat)) := by
  show some (I ((x.map PyData.int).length : Nat)) = _
  rw [List.length_map]
theorem seat_range (t : List Int) : (List.range t.length).map (fun i => ch (t.getD i 0).toNat (i + 1)) = chs t := by
  unfold chs
  apply List.ext_getElem
  · simp
  · intro i h1 h2
    simp at h1 h2
    simp [List.getElem?_eq_getElem h1]
theorem sort_sk (k : Nat) (hk : k ≤ 6) : sortR false (.v (.list ((sk k).map pR))) = some (.own ((ok k).map pR)) := by
  have hB := seats_all k hk
  unfold seatsB at hB
  simp only [Bool.and_eq_true, List.isPerm_iff] at hB
  refine sort_ok rfl (fun d hd e he => ?_) ?_ (n := 2) (fun d hd => ?_) (by omega) (hB.1.1.1.map _) (strictB_pw hB.1.1.2)
  · obtain ⟨a, _, rfl⟩ := List.mem_map.mp hd
    obtain ⟨b, _, rfl⟩ := List.mem_map.mp he
    exact alike_pair (alike_tI _ _) (alike_tI _ _)
  · intro _
    unfold sortableB
    rw [Bool.or_eq_true]
    left
    rw [List.all_eq_true]
    intro d hd
    obtain ⟨a, _, rfl⟩ := List.mem_map.mp hd
    rfl
  · obtain ⟨a, _, rfl⟩ := List.mem_map.mp hd
    refine okD_tup fun d hd => ?_
    rcases List.mem_cons.mp hd with rfl | hd
    · exact okD_tI 0 _
    · rcases List.mem_cons.mp hd with rfl | hd
      · exact okD_tI 0 a
      · cases hd
theorem step2 (ns : List Int) (k : Nat) (hk : k ≤ 6) (a1 a2 a3 a4 a5 a6 a7 a8 a9 a10 a11 a12 : Option R) : ∃ c7 c8 c9 c10 c11, stp (b1 3) (B_law_2 (tb 70)) (.int (k : Nat)) [some (.scr ns), a1, a2, a3, a4, a5, a6, a7, a8, a9, a10, a11, a12] = some (.nx [some (.scr ns), a1, a2, some (I k), a4, a5, a6, c7, c8, c9, c10, c11, a12]) := by
  obtain ⟨c, hc⟩ := cell70 ns (5 + k)
  obtain ⟨ds, hdl, hd, hdr⟩ := draws70 c 6 (by omega)
  obtain ⟨M, hM, hMb, hMk⟩ : ∃ M : Nat, (M : Int) = (if (k : Int) > 4 then 30 else 40) ∧ M ≤ 1000 ∧ k ≤ M := by
    by_cases h : (k : Int) > 4
    · exact ⟨30, by rw [if_pos h]; rfl, by omega, by omega⟩
    · exact ⟨40, by rw [if_neg h]; rfl, by omega, by omega⟩
  obtain ⟨t, ht, hl, htk⟩ := taken70 ds hd k M (by omega) hMk hMb
  have hse := seat70 M t hMb ht
  have hsa := setat70 k M t hMb (by omega) hl ht
  have hi1 := isI70 (seat t : Nat)
  have hi2 := isT70 t (by omega)
  have hs7 := sets70 7 (by omega)
  have e6 : ((6 : Nat) : Int) = 6 := rfl
  have e7 : ((7 : Nat) : Int) = 7 := rfl
  rw [e6] at hdr
  rw [e7] at hs7
  have e5 : (((5 + k : Nat)) : Int) = 5 + (k : Int) := by omega
  rw [e5] at hc
  have L := loop1 k hk (some (.scr ns)) a1 a2 a4 a5 a6 (some (.v (tI t))) a8 (some (I (seat t : Nat))) (some (.own ((sk k).map tI))) a11 a12
  obtain ⟨c8, c11, L⟩ := L
  have cA := cmp_map (b := b1 8) (E := caE (agE (bind2 (vr 7) (vr 8) ixR) (agE (bind2 (vr 8) (kI 1) (binR .Add)) ag0)) (gf (tb 70) d__law_choose)) (ρ := [some (.scr ns), a1, a2, some (I k), a4, a5, a6, some (.v (tI t)), none, a9, a10, a11, a12]) (fun i : Nat => PyData.int (0 + (i : Int))) (fun i : Nat => PyData.int (ch (t.getD i 0).toNat (i + 1) : Nat)) (List.range k) (by
    intro i hi
    rw [List.mem_range] at hi
    have hi' : i < t.length := by omega
    have hx := ht.2 t[i] (List.getElem_mem hi')
    have hg : t.getD i 0 = t[i] := by rw [List.getD_eq_getElem?_getD, List.getElem?_eq_getElem hi']; rfl
    have hw := choose70 t[i].toNat (i + 1) (by omega) (by omega)
    have e1 : ((t[i].toNat : Nat) : Int) = t[i] := by omega
    have e2 : ((i + 1 : Nat) : Int) = (i : Int) + 1 := by omega
    rw [e1, e2] at hw
    have ix : ixR (.v (tI t)) (I (0 + (i : Nat))) = some (I t[i]) := by
      show (atI (t.map PyData.int) _).map R.v = _
      rw [atI_some (j := i) (x := PyData.int t[i]) (by omega) (by rw [List.getElem?_map, List.getElem?_eq_getElem hi']; rfl)]
      rfl
    refine ⟨_, rfl, I (ch t[i].toNat (i + 1) : Nat), ?_, by rw [hg]; rfl⟩
    rw [Int.zero_add] at ix ⊢
    generalize ((i : Nat) : Int) = z at *
    simp -implicitDefEqProofs only [bS_ap, kB_nx, kB_ret, kB_bk, kB_ct, bE_ap, sIf_ap, ifE_ap, kIf_t, kIf_f, sAsg_ap, kAs_some, fzI_nil, fzI_cons, mP_ap, kP_some, st1_v, st1_own, stB_v, stB_own, sDoc_ap, sBrk_ap, sCnt_ap, sRet0_ap, sRet_ap, kR_v, kR_own, sRetN_ap, kRN_own, kRN_v, fin_ret, fin_nx, sAug_ap, kAu_some, getE_z, getE_s, vr_ap, kV_v, kV_own, kV_bor, kV_scr, frz1_ap, kZ_own, kZ_v, kZ_bor, ownAt_ap, kOw_own, wipeE_nil, wipeE_cons, kI_ap, kBo_ap, kN_ap, kS_ap, bind2_ap, k2_some, ntE_ap, kNt_bl, ngE_ap, kNg_i, tupE_ap, kTu_0, kTu_1, kTu_2, kTu_3, kTu_4, kTu_5, kTu_6, kTu_7, kTu_8, lstE_ap, kLs_0, kLs_1, kLs_2, kLs_3, ag0_ap, agE_ap, kAg_v, kAg_own, kAg_bor, kAg_scr, oN_ap, oS_ap, kO_i, cutE_ap, kCt_some, slR_tup, slR_list, slR_bor, slR_own, k1_some, rvE_ap, revR_tup, revR_list, revR_bor, revR_own, caE_ap, kC_some, oneR_1, isE_ap, vAnd_ap, kVA_t, kVA_f, vOr_ap, kVO_t, kVO_f, tE_ap, kT_bl, kT_i, kT_non, kT_tup, kT_list, kT_bor, tNot_ap, kTN_some, tAnd_ap, kTA_t, kTA_f, tOr_ap, kTO_t, kTO_f, fTrue_ap, binR_add, binR_sub, binR_mul, binR_div, binR_mod, binR_pow, addR_i, subR_i, cmpR_lt, cmpR_le, cmpR_gt, cmpR_ge, cmpR_eq, cmpR_ne, cmpR_is, cmpR_isn, isNone_non, isNone_i, isNone_b, isNone_t, addR_tup, addR_oo, addR_bo, ixR_bor, ixR_own, ixR_tup, ixR_list, ixR_scr, lenR_tup, lenR_list, lenR_bor, lenR_scr, absR_i, intR_i, minA_2, maxA_2, tupleR_tup, tupleR_list, tupleR_bor, listR_tup, listR_list, listR_bor, sumR_ints, kIt_some, iSeq_ap, iEnum_ap, iRev_ap, seqI_tup, seqI_list, seqI_own, seqI_bor, enumI_tup, enumI_list, enumI_own, enumI_bor, revI_tup, revI_list, revI_own, revI_bor, iRng_ap, kB1_some, stp_ap, sFor_ap, kF_some, b1_ap, bT_2, bT_3, bN_ap, bC_ap, kBC_some, lcE_ap, kLc_some, chainR_ap, kCh_some, kCh2_t, kCh2_f, sApp_ap, kAp_v, kAp_own, isi_ii, isi_ib, isi_is, isi_it, isi_bi, isi_bb, isi_bt, isi_ti, isi_tb, isi_ts, isi_tt, isi_ni, isi_nb, isi_ns, isi_nt, isi_ss, isi_si, isi_sb, isi_st, allLR_b, anyLR_b, in_ints, nin_ints, rgT_ap, rgL_ap, r1E_ap, lenR_tI, List.map_cons, List.map_nil, List.cons_append, List.nil_append, List.length_cons, List.length_nil, Nat.reduceAdd, Nat.reduceSub, List.replicate, List.set_cons_succ, List.set_cons_zero, Option.map_some, if_true, ix, hw])
  have e8 : ((List.range k).map fun i : Nat => PyData.int (ch (t.getD i 0).toNat (i + 1) : Nat)) = (chs t).map fun c : Nat => PyData.int (c : Int) := by
    rw [← seat_range, hl, List.map_map]
    rfl
  rw [e8, show (List.range k).map (fun i : Nat => PyData.int (0 + (i : Int))) = rngD 0 k from rfl] at cA
  have cB := cmp_filter (b := b1 12) (F := tE (bind2 (caE (agE (vr 12) ag0) (oneR lenR)) (vr 3) (cmpR .Eq))) (E := vr 12) (ρ := [some (.scr ns), a1, a2, some (I k), a4, a5, a6, some (.v (tI t)), a8, some (I (seat t : Nat)), a10, a11, none]) tI tI (fun t => decide (t.length = k)) (sets 7) (by
    intro u hu
    refine ⟨_, rfl, ?_, fun _ => ⟨.v (tI u), ?_, rfl⟩⟩
    · have q : decide (((u.length : Nat) : Int) = ((k : Nat) : Int)) = decide (u.length = k) := by
        by_cases h : u.length = k
        · simp [h]
        · have : ¬ ((u.length : Nat) : Int) = ((k : Nat) : Int) := by omega
          simp [h, this]
      simp -implicitDefEqProofs only [bS_ap, kB_nx, kB_ret, kB_bk, kB_ct, bE_ap, sIf_ap, ifE_ap, kIf_t, kIf_f, sAsg_ap, kAs_some, fzI_nil, fzI_cons, mP_ap, kP_some, st1_v, st1_own, stB_v, stB_own, sDoc_ap, sBrk_ap, sCnt_ap, sRet0_ap, sRet_ap, kR_v, kR_own, sRetN_ap, kRN_own, kRN_v, fin_ret, fin_nx, sAug_ap, kAu_some, getE_z, getE_s, vr_ap, kV_v, kV_own, kV_bor, kV_scr, frz1_ap, kZ_own, kZ_v, kZ_bor, ownAt_ap, kOw_own, wipeE_nil, wipeE_cons, kI_ap, kBo_ap, kN_ap, kS_ap, bind2_ap, k2_some, ntE_ap, kNt_bl, ngE_ap, kNg_i, tupE_ap, kTu_0, kTu_1, kTu_2, kTu_3, kTu_4, kTu_5, kTu_6, kTu_7, kTu_8, lstE_ap, kLs_0, kLs_1, kLs_2, kLs_3, ag0_ap, agE_ap, kAg_v, kAg_own, kAg_bor, kAg_scr, oN_ap, oS_ap, kO_i, cutE_ap, kCt_some, slR_tup, slR_list, slR_bor, slR_own, k1_some, rvE_ap, revR_tup, revR_list, revR_bor, revR_own, caE_ap, kC_some, oneR_1, isE_ap, vAnd_ap, kVA_t, kVA_f, vOr_ap, kVO_t, kVO_f, tE_ap, kT_bl, kT_i, kT_non, kT_tup, kT_list, kT_bor, tNot_ap, kTN_some, tAnd_ap, kTA_t, kTA_f, tOr_ap, kTO_t, kTO_f, fTrue_ap, binR_add, binR_sub, binR_mul, binR_div, binR_mod, binR_pow, addR_i, subR_i, cmpR_lt, cmpR_le, cmpR_gt, cmpR_ge, cmpR_eq, cmpR_ne, cmpR_is, cmpR_isn, isNone_non, isNone_i, isNone_b, isNone_t, addR_tup, addR_oo, addR_bo, ixR_bor, ixR_own, ixR_tup, ixR_list, ixR_scr, lenR_tup, lenR_list, lenR_bor, lenR_scr, absR_i, intR_i, minA_2, maxA_2, tupleR_tup, tupleR_list, tupleR_bor, listR_tup, listR_list, listR_bor, sumR_ints, kIt_some, iSeq_ap, iEnum_ap, iRev_ap, seqI_tup, seqI_list, seqI_own, seqI_bor, enumI_tup, enumI_list, enumI_own, enumI_bor, revI_tup, revI_list, revI_own, revI_bor, iRng_ap, kB1_some, stp_ap, sFor_ap, kF_some, b1_ap, bT_2, bT_3, bN_ap, bC_ap, kBC_some, lcE_ap, kLc_some, chainR_ap, kCh_some, kCh2_t, kCh2_f, sApp_ap, kAp_v, kAp_own, isi_ii, isi_ib, isi_is, isi_it, isi_bi, isi_bb, isi_bt, isi_ti, isi_tb, isi_ts, isi_tt, isi_ni, isi_nb, isi_ns, isi_nt, isi_ss, isi_si, isi_sb, isi_st, allLR_b, anyLR_b, in_ints, nin_ints, rgT_ap, rgL_ap, r1E_ap, lenR_tI, List.map_cons, List.map_nil, List.cons_append, List.nil_append, List.length_cons, List.length_nil, Nat.reduceAdd, Nat.reduceSub, List.replicate, List.set_cons_succ, List.set_cons_zero, Option.map_some, if_true, q]
    · simp -implicitDefEqProofs only [bS_ap, kB_nx, kB_ret, kB_bk, kB_ct, bE_ap, sIf_ap, ifE_ap, kIf_t, kIf_f, sAsg_ap, kAs_some, fzI_nil, fzI_cons, mP_ap, kP_some, st1_v, st1_own, stB_v, stB_own, sDoc_ap, sBrk_ap, sCnt_ap, sRet0_ap, sRet_ap, kR_v, kR_own, sRetN_ap, kRN_own, kRN_v, fin_ret, fin_nx, sAug_ap, kAu_some, getE_z, getE_s, vr_ap, kV_v, kV_own, kV_bor, kV_scr, frz1_ap, kZ_own, kZ_v, kZ_bor, ownAt_ap, kOw_own, wipeE_nil, wipeE_cons, kI_ap, kBo_ap, kN_ap, kS_ap, bind2_ap, k2_some, ntE_ap, kNt_bl, ngE_ap, kNg_i, tupE_ap, kTu_0, kTu_1, kTu_2, kTu_3, kTu_4, kTu_5, kTu_6, kTu_7, kTu_8, lstE_ap, kLs_0, kLs_1, kLs_2, kLs_3, ag0_ap, agE_ap, kAg_v, kAg_own, kAg_bor, kAg_scr, oN_ap, oS_ap, kO_i, cutE_ap, kCt_some, slR_tup, slR_list, slR_bor, slR_own, k1_some, rvE_ap, revR_tup, revR_list, revR_bor, revR_own, caE_ap, kC_some, oneR_1, isE_ap, vAnd_ap, kVA_t, kVA_f, vOr_ap, kVO_t, kVO_f, tE_ap, kT_bl, kT_i, kT_non, kT_tup, kT_list, kT_bor, tNot_ap, kTN_some, tAnd_ap, kTA_t, kTA_f, tOr_ap, kTO_t, kTO_f, fTrue_ap, binR_add, binR_sub, binR_mul, binR_div, binR_mod, binR_pow, addR_i, subR_i, cmpR_lt, cmpR_le, cmpR_gt, cmpR_ge, cmpR_eq, cmpR_ne, cmpR_is, cmpR_isn, isNone_non, isNone_i, isNone_b, isNone_t, addR_tup, addR_oo, addR_bo, ixR_bor, ixR_own, ixR_tup, ixR_list, ixR_scr, lenR_tup, lenR_list, lenR_bor, lenR_scr, absR_i, intR_i, minA_2, maxA_2, tupleR_tup, tupleR_list, tupleR_bor, listR_tup, listR_list, listR_bor, sumR_ints, kIt_some, iSeq_ap, iEnum_ap, iRev_ap, seqI_tup, seqI_list, seqI_own, seqI_bor, enumI_tup, enumI_list, enumI_own, enumI_bor, revI_tup, revI_list, revI_own, revI_bor, iRng_ap, kB1_some, stp_ap, sFor_ap, kF_some, b1_ap, bT_2, bT_3, bN_ap, bC_ap, kBC_some, lcE_ap, kLc_some, chainR_ap, kCh_some, kCh2_t, kCh2_f, sApp_ap, kAp_v, kAp_own, isi_ii, isi_ib, isi_is, isi_it, isi_bi, isi_bb, isi_bt, isi_ti, isi_tb, isi_ts, isi_tt, isi_ni, isi_nb, isi_ns, isi_nt, isi_ss, isi_si, isi_sb, isi_st, allLR_b, anyLR_b, in_ints, nin_ints, rgT_ap, rgL_ap, r1E_ap, lenR_tI, List.map_cons, List.map_nil, List.cons_append, List.nil_append, List.length_cons, List.length_nil, Nat.reduceAdd, Nat.reduceSub, List.replicate, List.set_cons_succ, List.set_cons_zero, Option.map_some, if_true])
  have cC := cmp_map (b := b1 12) (E := tupE (agE (rvE (vr 12)) (agE (vr 12) ag0))) (ρ := [some (.scr ns), a1, a2, some (I k), a4, a5, a6, some (.v (tI t)), a8, some (I (seat t : Nat)), some (.own ((sk k).map tI)), a11, none]) tI pR (sk k) (by
    intro u hu
    refine ⟨_, rfl, .v (pR u), ?_, rfl⟩
    have er : revR (.v (tI u)) = some (.v (tI u.reverse)) := by
      show some (R.v (.tuple (u.map PyData.int).reverse)) = _
      rw [← List.map_reverse]
      rfl
    simp -implicitDefEqProofs only [bS_ap, kB_nx, kB_ret, kB_bk, kB_ct, bE_ap, sIf_ap, ifE_ap, kIf_t, kIf_f, sAsg_ap, kAs_some, fzI_nil, fzI_cons, mP_ap, kP_some, st1_v, st1_own, stB_v, stB_own, sDoc_ap, sBrk_ap, sCnt_ap, sRet0_ap, sRet_ap, kR_v, kR_own, sRetN_ap, kRN_own, kRN_v, fin_ret, fin_nx, sAug_ap, kAu_some, getE_z, getE_s, vr_ap, kV_v, kV_own, kV_bor, kV_scr, frz1_ap, kZ_own, kZ_v, kZ_bor, ownAt_ap, kOw_own, wipeE_nil, wipeE_cons, kI_ap, kBo_ap, kN_ap, kS_ap, bind2_ap, k2_some, ntE_ap, kNt_bl, ngE_ap, kNg_i, tupE_ap, kTu_0, kTu_1, kTu_2, kTu_3, kTu_4, kTu_5, kTu_6, kTu_7, kTu_8, lstE_ap, kLs_0, kLs_1, kLs_2, kLs_3, ag0_ap, agE_ap, kAg_v, kAg_own, kAg_bor, kAg_scr, oN_ap, oS_ap, kO_i, cutE_ap, kCt_some, slR_tup, slR_list, slR_bor, slR_own, k1_some, rvE_ap, revR_tup, revR_list, revR_bor, revR_own, caE_ap, kC_some, oneR_1, isE_ap, vAnd_ap, kVA_t, kVA_f, vOr_ap, kVO_t, kVO_f, tE_ap, kT_bl, kT_i, kT_non, kT_tup, kT_list, kT_bor, tNot_ap, kTN_some, tAnd_ap, kTA_t, kTA_f, tOr_ap, kTO_t, kTO_f, fTrue_ap, binR_add, binR_sub, binR_mul, binR_div, binR_mod, binR_pow, addR_i, subR_i, cmpR_lt, cmpR_le, cmpR_gt, cmpR_ge, cmpR_eq, cmpR_ne, cmpR_is, cmpR_isn, isNone_non, isNone_i, isNone_b, isNone_t, addR_tup, addR_oo, addR_bo, ixR_bor, ixR_own, ixR_tup, ixR_list, ixR_scr, lenR_tup, lenR_list, lenR_bor, lenR_scr, absR_i, intR_i, minA_2, maxA_2, tupleR_tup, tupleR_list, tupleR_bor, listR_tup, listR_list, listR_bor, sumR_ints, kIt_some, iSeq_ap, iEnum_ap, iRev_ap, seqI_tup, seqI_list, seqI_own, seqI_bor, enumI_tup, enumI_list, enumI_own, enumI_bor, revI_tup, revI_list, revI_own, revI_bor, iRng_ap, kB1_some, stp_ap, sFor_ap, kF_some, b1_ap, bT_2, bT_3, bN_ap, bC_ap, kBC_some, lcE_ap, kLc_some, chainR_ap, kCh_some, kCh2_t, kCh2_f, sApp_ap, kAp_v, kAp_own, isi_ii, isi_ib, isi_is, isi_it, isi_bi, isi_bb, isi_bt, isi_ti, isi_tb, isi_ts, isi_tt, isi_ni, isi_nb, isi_ns, isi_nt, isi_ss, isi_si, isi_sb, isi_st, allLR_b, anyLR_b, in_ints, nin_ints, rgT_ap, rgL_ap, r1E_ap, lenR_tI, List.map_cons, List.map_nil, List.cons_append, List.nil_append, List.length_cons, List.length_nil, Nat.reduceAdd, Nat.reduceSub, List.replicate, List.set_cons_succ, List.set_cons_zero, Option.map_some, if_true, er, pR])
  have so := sort_sk k hk
  have e2 := kRg_nat (n := k) (by omega)
  refine ⟨some (.v (tI t)), c8, some (I (seat t : Nat)), some (.own ((sk k).map tI)), c11, ?_⟩
  unfold sk at *
  by_cases h4 : (4 : Int) < (k : Int)
  · rw [if_pos h4] at hM
    rw [hM] at htk
    simp -implicitDefEqProofs only [bS_ap, kB_nx, kB_ret, kB_bk, kB_ct, bE_ap, sIf_ap, ifE_ap, kIf_t, kIf_f, sAsg_ap, kAs_some, fzI_nil, fzI_cons, mP_ap, kP_some, st1_v, st1_own, stB_v, stB_own, sDoc_ap, sBrk_ap, sCnt_ap, sRet0_ap, sRet_ap, kR_v, kR_own, sRetN_ap, kRN_own, kRN_v, fin_ret, fin_nx, sAug_ap, kAu_some, getE_z, getE_s, vr_ap, kV_v, kV_own, kV_bor, kV_scr, frz1_ap, kZ_own, kZ_v, kZ_bor, ownAt_ap, kOw_own, wipeE_nil, wipeE_cons, kI_ap, kBo_ap, kN_ap, kS_ap, bind2_ap, k2_some, ntE_ap, kNt_bl, ngE_ap, kNg_i, tupE_ap, kTu_0, kTu_1, kTu_2, kTu_3, kTu_4, kTu_5, kTu_6, kTu_7, kTu_8, lstE_ap, kLs_0, kLs_1, kLs_2, kLs_3, ag0_ap, agE_ap, kAg_v, kAg_own, kAg_bor, kAg_scr, oN_ap, oS_ap, kO_i, cutE_ap, kCt_some, slR_tup, slR_list, slR_bor, slR_own, k1_some, rvE_ap, revR_tup, revR_list, revR_bor, revR_own, caE_ap, kC_some, oneR_1, isE_ap, vAnd_ap, kVA_t, kVA_f, vOr_ap, kVO_t, kVO_f, tE_ap, kT_bl, kT_i, kT_non, kT_tup, kT_list, kT_bor, tNot_ap, kTN_some, tAnd_ap, kTA_t, kTA_f, tOr_ap, kTO_t, kTO_f, fTrue_ap, binR_add, binR_sub, binR_mul, binR_div, binR_mod, binR_pow, addR_i, subR_i, cmpR_lt, cmpR_le, cmpR_gt, cmpR_ge, cmpR_eq, cmpR_ne, cmpR_is, cmpR_isn, isNone_non, isNone_i, isNone_b, isNone_t, addR_tup, addR_oo, addR_bo, ixR_bor, ixR_own, ixR_tup, ixR_list, ixR_scr, lenR_tup, lenR_list, lenR_bor, lenR_scr, absR_i, intR_i, minA_2, maxA_2, tupleR_tup, tupleR_list, tupleR_bor, listR_tup, listR_list, listR_bor, sumR_ints, kIt_some, iSeq_ap, iEnum_ap, iRev_ap, seqI_tup, seqI_list, seqI_own, seqI_bor, enumI_tup, enumI_list, enumI_own, enumI_bor, revI_tup, revI_list, revI_own, revI_bor, iRng_ap, kB1_some, stp_ap, sFor_ap, kF_some, b1_ap, bT_2, bT_3, bN_ap, bC_ap, kBC_some, lcE_ap, kLc_some, chainR_ap, kCh_some, kCh2_t, kCh2_f, sApp_ap, kAp_v, kAp_own, isi_ii, isi_ib, isi_is, isi_it, isi_bi, isi_bb, isi_bt, isi_ti, isi_tb, isi_ts, isi_tt, isi_ni, isi_nb, isi_ns, isi_nt, isi_ss, isi_si, isi_sb, isi_st, allLR_b, anyLR_b, in_ints, nin_ints, rgT_ap, rgL_ap, r1E_ap, lenR_tI, List.map_cons, List.map_nil, List.cons_append, List.nil_append, List.length_cons, List.length_nil, Nat.reduceAdd, Nat.reduceSub, List.replicate, List.set_cons_succ, List.set_cons_zero, Option.map_some, if_true, B_law_2, hc, hdr, h4, decide_true, htk, e2, cA, sumR_chs, hse, hsa, hi1, hi2, Bool.not_true, hs7, cB, cC, so, L]
  · rw [if_neg h4] at hM
    rw [hM] at htk
    simp -implicitDefEqProofs only [bS_ap, kB_nx, kB_ret, kB_bk, kB_ct, bE_ap, sIf_ap, ifE_ap, kIf_t, kIf_f, sAsg_ap, kAs_some, fzI_nil, fzI_cons, mP_ap, kP_some, st1_v, st1_own, stB_v, stB_own, sDoc_ap, sBrk_ap, sCnt_ap, sRet0_ap, sRet_ap, kR_v, kR_own, sRetN_ap, kRN_own, kRN_v, fin_ret, fin_nx, sAug_ap, kAu_some, getE_z, getE_s, vr_ap, kV_v, kV_own, kV_bor, kV_scr, frz1_ap, kZ_own, kZ_v, kZ_bor, ownAt_ap, kOw_own, wipeE_nil, wipeE_cons, kI_ap, kBo_ap, kN_ap, kS_ap, bind2_ap, k2_some, ntE_ap, kNt_bl, ngE_ap, kNg_i, tupE_ap, kTu_0, kTu_1, kTu_2, kTu_3, kTu_4, kTu_5, kTu_6, kTu_7, kTu_8, lstE_ap, kLs_0, kLs_1, kLs_2, kLs_3, ag0_ap, agE_ap, kAg_v, kAg_own, kAg_bor, kAg_scr, oN_ap, oS_ap, kO_i, cutE_ap, kCt_some, slR_tup, slR_list, slR_bor, slR_own, k1_some, rvE_ap, revR_tup, revR_list, revR_bor, revR_own, caE_ap, kC_some, oneR_1, isE_ap, vAnd_ap, kVA_t, kVA_f, vOr_ap, kVO_t, kVO_f, tE_ap, kT_bl, kT_i, kT_non, kT_tup, kT_list, kT_bor, tNot_ap, kTN_some, tAnd_ap, kTA_t, kTA_f, tOr_ap, kTO_t, kTO_f, fTrue_ap, binR_add, binR_sub, binR_mul, binR_div, binR_mod, binR_pow, addR_i, subR_i, cmpR_lt, cmpR_le, cmpR_gt, cmpR_ge, cmpR_eq, cmpR_ne, cmpR_is, cmpR_isn, isNone_non, isNone_i, isNone_b, isNone_t, addR_tup, addR_oo, addR_bo, ixR_bor, ixR_own, ixR_tup, ixR_list, ixR_scr, lenR_tup, lenR_list, lenR_bor, lenR_scr, absR_i, intR_i, minA_2, maxA_2, tupleR_tup, tupleR_list, tupleR_bor, listR_tup, listR_list, listR_bor, sumR_ints, kIt_some, iSeq_ap, iEnum_ap, iRev_ap, seqI_tup, seqI_list, seqI_own, seqI_bor, enumI_tup, enumI_list, enumI_own, enumI_bor, revI_tup, revI_list, revI_own, revI_bor, iRng_ap, kB1_some, stp_ap, sFor_ap, kF_some, b1_ap, bT_2, bT_3, bN_ap, bC_ap, kBC_some, lcE_ap, kLc_some, chainR_ap, kCh_some, kCh2_t, kCh2_f, sApp_ap, kAp_v, kAp_own, isi_ii, isi_ib, isi_is, isi_it, isi_bi, isi_bb, isi_bt, isi_ti, isi_tb, isi_ts, isi_tt, isi_ni, isi_nb, isi_ns, isi_nt, isi_ss, isi_si, isi_sb, isi_st, allLR_b, anyLR_b, in_ints, nin_ints, rgT_ap, rgL_ap, r1E_ap, lenR_tI, List.map_cons, List.map_nil, List.cons_append, List.nil_append, List.length_cons, List.length_nil, Nat.reduceAdd, Nat.reduceSub, List.replicate, List.set_cons_succ, List.set_cons_zero, Option.map_some, if_true, B_law_2, hc, hdr, h4, decide_false, htk, e2, cA, sumR_chs, hse, hsa, hi1, hi2, Bool.not_true, hs7, cB, cC, so, L]
end Kd

/-! H79j: the law's second block; its first block. -/
namespace Kd
open PySem PySem.Spec PyProof.Rows L2
theorem dr_at {ds : List Int} (hd : Dr ds) {j : Nat} (h : j < ds.length) {i : Int} (hi : i = (j : Nat)) : ∃ x : Int, ixR (.bor (ds.map .int)) (I i) = some (I x) ∧ 0 ≤ x ∧ x < 5040 := by
  refine ⟨ds[j], ?_, hd _ (List.getElem_mem h)⟩
  show (atI (ds.map PyData.int) i).map R.v = _
  rw [atI_some (j := j) (x := PyData.int ds[j]) hi (by rw [List.getElem?_map, List.getElem?_eq_getElem h]; rfl)]
  rfl
theorem step3 (ns ds : List Int) (hl : ds.length = 60) (hd : Dr ds) (i : Nat) (hi : i < 4) (a2 a3 a4 a5 a6 a7 a8 a9 a10 a11 a12 : Option R) : ∃ c3 c4 c7 c8, stp (b1 2) (B_law_3 (tb 70)) (.int (i : Nat)) [some (.scr ns), some (.own (ds.map .int)), a2, a3, a4, a5, a6, a7, a8, a9, a10, a11, a12] = some (.nx [some (.scr ns), some (.own (ds.map .int)), some (I i), c3, c4, a5, a6, c7, c8, a9, a10, a11, a12]) := by
  obtain ⟨x, hx, hx1, hx2⟩ := dr_at hd (j := 10 + i) (by omega) (i := 10 + (i : Int)) (by omega)
  obtain ⟨y, hy, hy1, hy2⟩ := dr_at hd (j := 14 + i) (by omega) (i := 14 + (i : Int)) (by omega)
  obtain ⟨n, hn, hn1⟩ : ∃ n : Nat, (n : Int) = 8 + x % 23 ∧ n ≤ 30 := ⟨(8 + x % 23).toNat, by omega, by omega⟩
  have hm1 : modR (I x) (I 23) = some (I (x % 23)) := modR_ok (by omega)
  have hm2 : modR (I y) (I ((n : Int) + 1)) = some (I (y % ((n : Int) + 1))) := modR_ok (by omega)
  obtain ⟨k, hk, hk1⟩ : ∃ k : Nat, (k : Int) = y % ((n : Int) + 1) ∧ k ≤ n := by
    have h1 := Int.emod_nonneg y (b := (n : Int) + 1) (by omega)
    have h2 := Int.emod_lt_of_pos y (b := (n : Int) + 1) (by omega)
    exact ⟨(y % ((n : Int) + 1)).toNat, by omega, by omega⟩
  obtain ⟨c, hc⟩ := cell70 ns (1 + i)
  obtain ⟨es, hel, he, her⟩ := draws70 c 30 (by omega)
  have e30 : ((30 : Nat) : Int) = 30 := rfl
  have e1i : ((1 + i : Nat) : Int) = 1 + (i : Int) := by omega
  rw [e30] at her
  rw [e1i] at hc
  obtain ⟨t, ht, htl, htk⟩ := taken70 es he k n (by omega) hk1 (by omega)
  obtain ⟨p1, p2⟩ := pl_ok ht
  rw [htl] at p1 p2
  have f1 := far70 n t (by omega) ht
  have f2 := place70 n t (by omega) ht
  have f3 := things70 n k (pl n t) (by omega) hk1 p1
  rw [p2] at f3
  have f4 := thingsN70 n k (ch n k : Nat) (by omega) hk1 (Int.le_refl _)
  have f5 := choose70 n k (by omega) (by omega)
  have i1 := isI70 (pl n t : Nat)
  have i2 := isT70 t (by omega)
  refine ⟨some (I k), some (I n), some (.v (tI t)), some (I (pl n t : Nat)), ?_⟩
  generalize ((i : Nat) : Int) = ii at *
  simp -implicitDefEqProofs only [bS_ap, kB_nx, kB_ret, kB_bk, kB_ct, bE_ap, sIf_ap, ifE_ap, kIf_t, kIf_f, sAsg_ap, kAs_some, fzI_nil, fzI_cons, mP_ap, kP_some, st1_v, st1_own, stB_v, stB_own, sDoc_ap, sBrk_ap, sCnt_ap, sRet0_ap, sRet_ap, kR_v, kR_own, sRetN_ap, kRN_own, kRN_v, fin_ret, fin_nx, sAug_ap, kAu_some, getE_z, getE_s, vr_ap, kV_v, kV_own, kV_bor, kV_scr, frz1_ap, kZ_own, kZ_v, kZ_bor, ownAt_ap, kOw_own, wipeE_nil, wipeE_cons, kI_ap, kBo_ap, kN_ap, kS_ap, bind2_ap, k2_some, ntE_ap, kNt_bl, ngE_ap, kNg_i, tupE_ap, kTu_0, kTu_1, kTu_2, kTu_3, kTu_4, kTu_5, kTu_6, kTu_7, kTu_8, lstE_ap, kLs_0, kLs_1, kLs_2, kLs_3, ag0_ap, agE_ap, kAg_v, kAg_own, kAg_bor, kAg_scr, oN_ap, oS_ap, kO_i, cutE_ap, kCt_some, slR_tup, slR_list, slR_bor, slR_own, k1_some, rvE_ap, revR_tup, revR_list, revR_bor, revR_own, caE_ap, kC_some, oneR_1, isE_ap, vAnd_ap, kVA_t, kVA_f, vOr_ap, kVO_t, kVO_f, tE_ap, kT_bl, kT_i, kT_non, kT_tup, kT_list, kT_bor, tNot_ap, kTN_some, tAnd_ap, kTA_t, kTA_f, tOr_ap, kTO_t, kTO_f, fTrue_ap, binR_add, binR_sub, binR_mul, binR_div, binR_mod, binR_pow, addR_i, subR_i, cmpR_lt, cmpR_le, cmpR_gt, cmpR_ge, cmpR_eq, cmpR_ne, cmpR_is, cmpR_isn, isNone_non, isNone_i, isNone_b, isNone_t, addR_tup, addR_oo, addR_bo, ixR_bor, ixR_own, ixR_tup, ixR_list, ixR_scr, lenR_tup, lenR_list, lenR_bor, lenR_scr, absR_i, intR_i, minA_2, maxA_2, tupleR_tup, tupleR_list, tupleR_bor, listR_tup, listR_list, listR_bor, sumR_ints, kIt_some, iSeq_ap, iEnum_ap, iRev_ap, seqI_tup, seqI_list, seqI_own, seqI_bor, enumI_tup, enumI_list, enumI_own, enumI_bor, revI_tup, revI_list, revI_own, revI_bor, iRng_ap, kB1_some, stp_ap, sFor_ap, kF_some, b1_ap, bT_2, bT_3, bN_ap, bC_ap, kBC_some, lcE_ap, kLc_some, chainR_ap, kCh_some, kCh2_t, kCh2_f, sApp_ap, kAp_v, kAp_own, isi_ii, isi_ib, isi_is, isi_it, isi_bi, isi_bb, isi_bt, isi_ti, isi_tb, isi_ts, isi_tt, isi_ni, isi_nb, isi_ns, isi_nt, isi_ss, isi_si, isi_sb, isi_st, allLR_b, anyLR_b, in_ints, nin_ints, rgT_ap, rgL_ap, r1E_ap, lenR_tI, List.map_cons, List.map_nil, List.cons_append, List.nil_append, List.length_cons, List.length_nil, Nat.reduceAdd, Nat.reduceSub, List.replicate, List.set_cons_succ, List.set_cons_zero, Option.map_some, if_true, B_law_3, hx, hm1, ← hn, hy, hm2, ← hk, hc, her, htk, f1, f2, f3, f4, f5, i1, i2, Bool.not_true]
/-! the first block -/
def fk (n k : Nat) : List (List Int) := (sets n).filter fun t => decide (t.length = k)
def rowB (n k : Nat) : Bool :=
  let r := row n k
  decide (r.length = ch n k) && (List.range r.length).all (fun i => let t := r.getD i []; sbB n t && decide (pl n t = i) && decide (t.length = k) && (decide (r.length ≤ 1) || exB2 (r.getD (if i = 0 then r.length - 1 else i - 1) []) t)) && (fk n k).isPerm r && strictB ((fk n k).map tI)
theorem row_all : ∀ n : Nat, n ≤ 7 → ∀ k : Nat, k ≤ n → rowB n k = true := by decide +kernel
end Kd

/-! H79k: the law's first block. -/
namespace Kd
open PySem PySem.Spec PyProof.Rows L2
theorem row_at {n k : Nat} (hn : n ≤ 7) (hk : k ≤ n) {i : Nat} {t : List Int} (h : (row n k)[i]? = some t) : Sb n t ∧ pl n t = i ∧ t.length = k ∧ ((row n k).length ≤ 1 ∨ exB2 ((row n k).getD (if i = 0 then (row n k).length - 1 else i - 1) []) t = true) := by
  have hB := row_all n hn k hk
  unfold rowB at hB
  simp only [Bool.and_eq_true, List.all_eq_true, decide_eq_true_eq, Bool.or_eq_true, List.mem_range] at hB
  obtain ⟨hi, e⟩ := List.getElem?_eq_some_iff.mp h
  have a := hB.1.1.2 i hi
  have eg : (row n k).getD i [] = t := by rw [List.getD_eq_getElem?_getD, h]; rfl
  rw [eg] at a
  exact ⟨sbB_ok a.1.1.1, a.1.1.2, a.1.2, a.2⟩
theorem row_ch {n k : Nat} (hn : n ≤ 7) (hk : k ≤ n) : (row n k).length = ch n k := by
  have hB := row_all n hn k hk
  unfold rowB at hB
  simp only [Bool.and_eq_true, List.all_eq_true, decide_eq_true_eq] at hB
  exact hB.1.1.1
theorem ch_small {n k : Nat} (hn : n ≤ 7) (hk : k ≤ n) : ch n k ≤ 128 := by
  rw [← row_ch hn hk]
  have h1 := row_sz n k
  have h2 : 2 ^ n ≤ 2 ^ 7 := Nat.pow_le_pow_right (by omega) hn
  omega
theorem loop5 (n k : Nat) (hn : n ≤ 7) (hk : k ≤ n) (a0 a1 a2 a6 a7 a8 a9 a10 a11 a12 : Option R) : ∃ b7 b8, forL (stp (bT 2 (bC (b1 8) (bC (b1 7) bN))) (B_law_5 (tb 70))) (enumD ((row n k).map tI)) [a0, a1, a2, some (I k), some (I n), some (.v (.list ((row n k).map tI))), a6, a7, a8, a9, a10, a11, a12] = some (.nx [a0, a1, a2, some (I k), some (I n), some (.v (.list ((row n k).map tI))), a6, b7, b8, a9, a10, a11, a12]) := by
  obtain ⟨ρ', e, b7, b8, rfl⟩ := forL_inv (step := stp (bT 2 (bC (b1 8) (bC (b1 7) bN))) (B_law_5 (tb 70))) (ds := enumD ((row n k).map tI)) (fun i ρ => ∃ b7 b8, ρ = [a0, a1, a2, some (I k), some (I n), some (.v (.list ((row n k).map tI))), a6, b7, b8, a9, a10, a11, a12]) (ρ := [a0, a1, a2, some (I k), some (I n), some (.v (.list ((row n k).map tI))), a6, a7, a8, a9, a10, a11, a12]) ⟨a7, a8, rfl⟩ (by
    rintro i d ρ hd ⟨b7, b8, rfl⟩
    obtain ⟨d', hd', rfl⟩ := enumD_at hd
    rw [List.getElem?_map] at hd'
    obtain ⟨t, ht, rfl⟩ := Option.map_eq_some_iff.mp hd'
    obtain ⟨h1, h2, h3, h4⟩ := row_at hn hk ht
    obtain ⟨p1, p2⟩ := pl_ok h1
    rw [h3, h2] at p1 p2
    have s1 := place70 n t (by omega) h1
    rw [h2] at s1
    have s2 := things70 n k i (by omega) hk p1
    rw [p2] at s2
    have s3 := isI70 (i : Nat)
    have s4 := isT70 t (by omega)
    have hch := row_ch hn hk
    refine ⟨_, ?_, some (.v (tI t)), some (I (i : Nat)), rfl⟩
    have el : lenR (.v (.list ((row n k).map tI))) = some (I ((row n k).length : Nat)) := by
      show some (I (((row n k).map tI).length : Nat)) = _
      rw [List.length_map]
    by_cases hl : (1 : Int) < (((row n k).length : Nat) : Int)
    · have h5 := h4.resolve_left (by omega)
      have ex := exchd70 ((row n k).getD (if i = 0 then (row n k).length - 1 else i - 1) []) t
      rw [h5] at ex
      have ix : ixR (.v (.list ((row n k).map tI))) (I ((i : Int) - 1)) = some (.v (tI ((row n k).getD (if i = 0 then (row n k).length - 1 else i - 1) []))) := by
        show (atI ((row n k).map tI) ((i : Int) - 1)).map R.v = _
        have hq : ∀ j : Nat, j < (row n k).length → ((row n k).map tI)[j]? = some (tI ((row n k).getD j [])) := fun j hj => by
          rw [List.getElem?_map, List.getElem?_eq_getElem hj, List.getD_eq_getElem?_getD, List.getElem?_eq_getElem hj]
          rfl
        by_cases h0 : i = 0
        · rw [if_pos h0]
          have e1 : ((i : Int) - 1) = -1 := by omega
          rw [e1]
          have e2 : atI ((row n k).map tI) (-1) = some (tI ((row n k).getD ((row n k).length - 1) [])) := by
            unfold atI ixN
            rw [if_neg (by omega), if_pos (by rw [List.length_map]; omega), Option.bind_some, List.length_map]
            have e3 : ((-1 : Int) + ((row n k).length : Nat)).toNat = (row n k).length - 1 := by omega
            rw [e3]
            exact hq _ (by omega)
          rw [e2]
          rfl
        · rw [if_neg h0]
          have hi := (List.getElem?_eq_some_iff.mp ht).1
          rw [atI_some (j := i - 1) (by omega) (hq (i - 1) (by omega))]
          rfl
      generalize ((i : Nat) : Int) = ii at *
      simp -implicitDefEqProofs only [bS_ap, kB_nx, kB_ret, kB_bk, kB_ct, bE_ap, sIf_ap, ifE_ap, kIf_t, kIf_f, sAsg_ap, kAs_some, fzI_nil, fzI_cons, mP_ap, kP_some, st1_v, st1_own, stB_v, stB_own, sDoc_ap, sBrk_ap, sCnt_ap, sRet0_ap, sRet_ap, kR_v, kR_own, sRetN_ap, kRN_own, kRN_v, fin_ret, fin_nx, sAug_ap, kAu_some, getE_z, getE_s, vr_ap, kV_v, kV_own, kV_bor, kV_scr, frz1_ap, kZ_own, kZ_v, kZ_bor, ownAt_ap, kOw_own, wipeE_nil, wipeE_cons, kI_ap, kBo_ap, kN_ap, kS_ap, bind2_ap, k2_some, ntE_ap, kNt_bl, ngE_ap, kNg_i, tupE_ap, kTu_0, kTu_1, kTu_2, kTu_3, kTu_4, kTu_5, kTu_6, kTu_7, kTu_8, lstE_ap, kLs_0, kLs_1, kLs_2, kLs_3, ag0_ap, agE_ap, kAg_v, kAg_own, kAg_bor, kAg_scr, oN_ap, oS_ap, kO_i, cutE_ap, kCt_some, slR_tup, slR_list, slR_bor, slR_own, k1_some, rvE_ap, revR_tup, revR_list, revR_bor, revR_own, caE_ap, kC_some, oneR_1, isE_ap, vAnd_ap, kVA_t, kVA_f, vOr_ap, kVO_t, kVO_f, tE_ap, kT_bl, kT_i, kT_non, kT_tup, kT_list, kT_bor, tNot_ap, kTN_some, tAnd_ap, kTA_t, kTA_f, tOr_ap, kTO_t, kTO_f, fTrue_ap, binR_add, binR_sub, binR_mul, binR_div, binR_mod, binR_pow, addR_i, subR_i, cmpR_lt, cmpR_le, cmpR_gt, cmpR_ge, cmpR_eq, cmpR_ne, cmpR_is, cmpR_isn, isNone_non, isNone_i, isNone_b, isNone_t, addR_tup, addR_oo, addR_bo, ixR_bor, ixR_own, ixR_tup, ixR_list, ixR_scr, lenR_tup, lenR_list, lenR_bor, lenR_scr, absR_i, intR_i, minA_2, maxA_2, tupleR_tup, tupleR_list, tupleR_bor, listR_tup, listR_list, listR_bor, sumR_ints, kIt_some, iSeq_ap, iEnum_ap, iRev_ap, seqI_tup, seqI_list, seqI_own, seqI_bor, enumI_tup, enumI_list, enumI_own, enumI_bor, revI_tup, revI_list, revI_own, revI_bor, iRng_ap, kB1_some, stp_ap, sFor_ap, kF_some, b1_ap, bT_2, bT_3, bN_ap, bC_ap, kBC_some, lcE_ap, kLc_some, chainR_ap, kCh_some, kCh2_t, kCh2_f, sApp_ap, kAp_v, kAp_own, isi_ii, isi_ib, isi_is, isi_it, isi_bi, isi_bb, isi_bt, isi_ti, isi_tb, isi_ts, isi_tt, isi_ni, isi_nb, isi_ns, isi_nt, isi_ss, isi_si, isi_sb, isi_st, allLR_b, anyLR_b, in_ints, nin_ints, rgT_ap, rgL_ap, r1E_ap, lenR_tI, List.map_cons, List.map_nil, List.cons_append, List.nil_append, List.length_cons, List.length_nil, Nat.reduceAdd, Nat.reduceSub, List.replicate, List.set_cons_succ, List.set_cons_zero, Option.map_some, if_true, B_law_5, el, hl, decide_true, ix, ex, s1, s2, s3, s4, Bool.not_true]
    · generalize ((i : Nat) : Int) = ii at *
      simp -implicitDefEqProofs only [bS_ap, kB_nx, kB_ret, kB_bk, kB_ct, bE_ap, sIf_ap, ifE_ap, kIf_t, kIf_f, sAsg_ap, kAs_some, fzI_nil, fzI_cons, mP_ap, kP_some, st1_v, st1_own, stB_v, stB_own, sDoc_ap, sBrk_ap, sCnt_ap, sRet0_ap, sRet_ap, kR_v, kR_own, sRetN_ap, kRN_own, kRN_v, fin_ret, fin_nx, sAug_ap, kAu_some, getE_z, getE_s, vr_ap, kV_v, kV_own, kV_bor, kV_scr, frz1_ap, kZ_own, kZ_v, kZ_bor, ownAt_ap, kOw_own, wipeE_nil, wipeE_cons, kI_ap, kBo_ap, kN_ap, kS_ap, bind2_ap, k2_some, ntE_ap, kNt_bl, ngE_ap, kNg_i, tupE_ap, kTu_0, kTu_1, kTu_2, kTu_3, kTu_4, kTu_5, kTu_6, kTu_7, kTu_8, lstE_ap, kLs_0, kLs_1, kLs_2, kLs_3, ag0_ap, agE_ap, kAg_v, kAg_own, kAg_bor, kAg_scr, oN_ap, oS_ap, kO_i, cutE_ap, kCt_some, slR_tup, slR_list, slR_bor, slR_own, k1_some, rvE_ap, revR_tup, revR_list, revR_bor, revR_own, caE_ap, kC_some, oneR_1, isE_ap, vAnd_ap, kVA_t, kVA_f, vOr_ap, kVO_t, kVO_f, tE_ap, kT_bl, kT_i, kT_non, kT_tup, kT_list, kT_bor, tNot_ap, kTN_some, tAnd_ap, kTA_t, kTA_f, tOr_ap, kTO_t, kTO_f, fTrue_ap, binR_add, binR_sub, binR_mul, binR_div, binR_mod, binR_pow, addR_i, subR_i, cmpR_lt, cmpR_le, cmpR_gt, cmpR_ge, cmpR_eq, cmpR_ne, cmpR_is, cmpR_isn, isNone_non, isNone_i, isNone_b, isNone_t, addR_tup, addR_oo, addR_bo, ixR_bor, ixR_own, ixR_tup, ixR_list, ixR_scr, lenR_tup, lenR_list, lenR_bor, lenR_scr, absR_i, intR_i, minA_2, maxA_2, tupleR_tup, tupleR_list, tupleR_bor, listR_tup, listR_list, listR_bor, sumR_ints, kIt_some, iSeq_ap, iEnum_ap, iRev_ap, seqI_tup, seqI_list, seqI_own, seqI_bor, enumI_tup, enumI_list, enumI_own, enumI_bor, revI_tup, revI_list, revI_own, revI_bor, iRng_ap, kB1_some, stp_ap, sFor_ap, kF_some, b1_ap, bT_2, bT_3, bN_ap, bC_ap, kBC_some, lcE_ap, kLc_some, chainR_ap, kCh_some, kCh2_t, kCh2_f, sApp_ap, kAp_v, kAp_own, isi_ii, isi_ib, isi_is, isi_it, isi_bi, isi_bb, isi_bt, isi_ti, isi_tb, isi_ts, isi_tt, isi_ni, isi_nb, isi_ns, isi_nt, isi_ss, isi_si, isi_sb, isi_st, allLR_b, anyLR_b, in_ints, nin_ints, rgT_ap, rgL_ap, r1E_ap, lenR_tI, List.map_cons, List.map_nil, List.cons_append, List.nil_append, List.length_cons, List.length_nil, Nat.reduceAdd, Nat.reduceSub, List.replicate, List.set_cons_succ, List.set_cons_zero, Option.map_some, if_true, B_law_5, el, hl, decide_false, s1, s2, s3, s4, Bool.not_true])
  exact ⟨b7, b8, e⟩
theorem loop4 (n k : Nat) (hn : n ≤ 7) (hk : k ≤ n) (L : List Int) (hL : ∀ x ∈ L, 0 ≤ x) (a0 a1 a2 a6 a7 a8 a9 a10 a11 a12 : Option R) : ∃ b6, forL (stp (b1 6) (B_law_4 (tb 70))) (L.map PyData.int) [a0, a1, a2, some (I k), some (I n), some (.v (.list ((row n k).map tI))), a6, a7, a8, a9, a10, a11, a12] = some (.nx [a0, a1, a2, some (I k), some (I n), some (.v (.list ((row n k).map tI))), b6, a7, a8, a9, a10, a11, a12]) := by
  obtain ⟨ρ', e, b6, rfl⟩ := forL_inv (step := stp (b1 6) (B_law_4 (tb 70))) (ds := L.map PyData.int) (fun i ρ => ∃ b6, ρ = [a0, a1, a2, some (I k), some (I n), some (.v (.list ((row n k).map tI))), b6, a7, a8, a9, a10, a11, a12]) (ρ := [a0, a1, a2, some (I k), some (I n), some (.v (.list ((row n k).map tI))), a6, a7, a8, a9, a10, a11, a12]) ⟨a6, rfl⟩ (by
    rintro i d ρ hd ⟨b6, rfl⟩
    rw [List.getElem?_map] at hd
    obtain ⟨x, hx, rfl⟩ := Option.map_eq_some_iff.mp hd
    have h0 := hL x (List.mem_of_getElem? hx)
    have s := thingsN70 n k (((row n k).length : Nat) + x) (by omega) hk (by rw [row_ch hn hk]; omega)
    have el : lenR (.v (.list ((row n k).map tI))) = some (I ((row n k).length : Nat)) := by
      show some (I (((row n k).map tI).length : Nat)) = _
      rw [List.length_map]
    refine ⟨_, ?_, some (I x), rfl⟩
    simp -implicitDefEqProofs only [bS_ap, kB_nx, kB_ret, kB_bk, kB_ct, bE_ap, sIf_ap, ifE_ap, kIf_t, kIf_f, sAsg_ap, kAs_some, fzI_nil, fzI_cons, mP_ap, kP_some, st1_v, st1_own, stB_v, stB_own, sDoc_ap, sBrk_ap, sCnt_ap, sRet0_ap, sRet_ap, kR_v, kR_own, sRetN_ap, kRN_own, kRN_v, fin_ret, fin_nx, sAug_ap, kAu_some, getE_z, getE_s, vr_ap, kV_v, kV_own, kV_bor, kV_scr, frz1_ap, kZ_own, kZ_v, kZ_bor, ownAt_ap, kOw_own, wipeE_nil, wipeE_cons, kI_ap, kBo_ap, kN_ap, kS_ap, bind2_ap, k2_some, ntE_ap, kNt_bl, ngE_ap, kNg_i, tupE_ap, kTu_0, kTu_1, kTu_2, kTu_3, kTu_4, kTu_5, kTu_6, kTu_7, kTu_8, lstE_ap, kLs_0, kLs_1, kLs_2, kLs_3, ag0_ap, agE_ap, kAg_v, kAg_own, kAg_bor, kAg_scr, oN_ap, oS_ap, kO_i, cutE_ap, kCt_some, slR_tup, slR_list, slR_bor, slR_own, k1_some, rvE_ap, revR_tup, revR_list, revR_bor, revR_own, caE_ap, kC_some, oneR_1, isE_ap, vAnd_ap, kVA_t, kVA_f, vOr_ap, kVO_t, kVO_f, tE_ap, kT_bl, kT_i, kT_non, kT_tup, kT_list, kT_bor, tNot_ap, kTN_some, tAnd_ap, kTA_t, kTA_f, tOr_ap, kTO_t, kTO_f, fTrue_ap, binR_add, binR_sub, binR_mul, binR_div, binR_mod, binR_pow, addR_i, subR_i, cmpR_lt, cmpR_le, cmpR_gt, cmpR_ge, cmpR_eq, cmpR_ne, cmpR_is, cmpR_isn, isNone_non, isNone_i, isNone_b, isNone_t, addR_tup, addR_oo, addR_bo, ixR_bor, ixR_own, ixR_tup, ixR_list, ixR_scr, lenR_tup, lenR_list, lenR_bor, lenR_scr, absR_i, intR_i, minA_2, maxA_2, tupleR_tup, tupleR_list, tupleR_bor, listR_tup, listR_list, listR_bor, sumR_ints, kIt_some, iSeq_ap, iEnum_ap, iRev_ap, seqI_tup, seqI_list, seqI_own, seqI_bor, enumI_tup, enumI_list, enumI_own, enumI_bor, revI_tup, revI_list, revI_own, revI_bor, iRng_ap, kB1_some, stp_ap, sFor_ap, kF_some, b1_ap, bT_2, bT_3, bN_ap, bC_ap, kBC_some, lcE_ap, kLc_some, chainR_ap, kCh_some, kCh2_t, kCh2_f, sApp_ap, kAp_v, kAp_own, isi_ii, isi_ib, isi_is, isi_it, isi_bi, isi_bb, isi_bt, isi_ti, isi_tb, isi_ts, isi_tt, isi_ni, isi_nb, isi_ns, isi_nt, isi_ss, isi_si, isi_sb, isi_st, allLR_b, anyLR_b, in_ints, nin_ints, rgT_ap, rgL_ap, r1E_ap, lenR_tI, List.map_cons, List.map_nil, List.cons_append, List.nil_append, List.length_cons, List.length_nil, Nat.reduceAdd, Nat.reduceSub, List.replicate, List.set_cons_succ, List.set_cons_zero, Option.map_some, if_true, B_law_4, el, s, Bool.not_true])
  exact ⟨b6, e⟩
theorem row_ok7 {n k : Nat} (hn : n ≤ 7) (hk : k ≤ n) (x : R) (hx : toSeq x = some (false, (row n k).map tI) ∨ toSeq x = some (false, (fk n k).map tI)) : sortR false x = some (.own ((fk n k).map tI)) := by
  have hB := row_all n hn k hk
  unfold rowB at hB
  simp only [Bool.and_eq_true, List.isPerm_iff] at hB
  have hlen : ∀ t ∈ fk n k, t.length = k := fun t ht => by
    unfold fk at ht
    simpa using (List.mem_filter.mp ht).2
  have hch := row_ch hn hk
  have gen : ∀ (rs : List (List Int)), (fk n k).Perm rs → toSeq x = some (false, rs.map tI) → sortR false x = some (.own ((fk n k).map tI)) := fun rs hp hx => by
    refine sort_ok hx (fun d hd e he => ?_) ?_ (n := 1) (fun d hd => ?_) (by omega) (hp.map _) (strictB_pw hB.2)
    · obtain ⟨a, _, rfl⟩ := List.mem_map.mp hd
      obtain ⟨b, _, rfl⟩ := List.mem_map.mp he
      exact alike_tI _ _
    · intro h2
      have hk0 : k ≠ 0 := fun h => by
        subst h
        have e1 : (rs.map tI).length = (row n 0).length := by rw [List.length_map, ← hp.length_eq, hB.1.2.length_eq]
        rw [hch, ch_0] at e1
        omega
      unfold sortableB
      rw [Bool.or_eq_true]
      left
      rw [List.all_eq_true]
      intro d hd
      obtain ⟨a, ha, rfl⟩ := List.mem_map.mp hd
      have := hlen a (hp.symm.subset ha)
      cases a with
      | nil => simp at this; omega
      | cons x r => rfl
    · obtain ⟨a, _, rfl⟩ := List.mem_map.mp hd
      exact okD_tI 0 a
  rcases hx with hx | hx
  · exact gen _ hB.1.2 hx
  · exact gen _ (.refl _) hx
theorem ne_same (ds : List D) {n : Nat} (h : ∀ d ∈ ds, okD n d) (hn : n ≤ 63 := by omega) : cmpR .NotEq (.own ds) (.own ds) = some (Bl false) := by
  rw [ne_ok (n := n + 1) rfl rfl (okD_list h) (okD_list h) (by omega), eqv_refl _ (okD_list h).1]
  rfl
theorem pick_n (x : Int) : ∃ n : Nat, n ≤ 7 ∧ ixR (.v (.tuple [.int 5, .int 6, .int 4, .int 7, .int 3, .int 2, .int 1, .int 0])) (I (x % 8)) = some (I n) := by
  have h : x % 8 = 0 ∨ x % 8 = 1 ∨ x % 8 = 2 ∨ x % 8 = 3 ∨ x % 8 = 4 ∨ x % 8 = 5 ∨ x % 8 = 6 ∨ x % 8 = 7 := by omega
  rcases h with h | h | h | h | h | h | h | h <;> rw [h]
  · exact ⟨5, by omega, rfl⟩
  · exact ⟨6, by omega, rfl⟩
  · exact ⟨4, by omega, rfl⟩
  · exact ⟨7, by omega, rfl⟩
  · exact ⟨3, by omega, rfl⟩
  · exact ⟨2, by omega, rfl⟩
  · exact ⟨1, by omega, rfl⟩
  · exact ⟨0, by omega, rfl⟩
theorem pick_k (x : Int) : ∃ n : Nat, ixR (.v (.tuple [.int 2, .int 3, .int 1, .int 4, .int 0, .int 5, .int 7])) (I (x % 7)) = some (I n) := by
  have h : x % 7 = 0 ∨ x % 7 = 1 ∨ x % 7 = 2 ∨ x % 7 = 3 ∨ x % 7 = 4 ∨ x % 7 = 5 ∨ x % 7 = 6 := by omega
  rcases h with h | h | h | h | h | h | h <;> rw [h]
  · exact ⟨2, rfl⟩
  · exact ⟨3, rfl⟩
  · exact ⟨1, rfl⟩
  · exact ⟨4, rfl⟩
  · exact ⟨0, rfl⟩
  · exact ⟨5, rfl⟩
  · exact ⟨7, rfl⟩
theorem pow_20 : powR (I 10) (I 20) = some (I 100000000000000000000) := powR_ok ⟨by decide, by decide, by decide⟩
theorem step6 (ns ds : List Int) (hl : ds.length = 60) (hd : Dr ds) (i : Nat) (hi : i < 3) (a2 a3 a4 a5 a6 a7 a8 a9 a10 a11 a12 : Option R) : ∃ c3 c4 c5 c6 c7 c8, stp (b1 2) (B_law_6 (tb 70)) (.int (i : Nat)) [some (.scr ns), some (.own (ds.map .int)), a2, a3, a4, a5, a6, a7, a8, a9, a10, a11, a12] = some (.nx [some (.scr ns), some (.own (ds.map .int)), some (I i), c3, c4, c5, c6, c7, c8, a9, a10, a11, a12]) := by
  obtain ⟨x, hx, hx1, hx2⟩ := dr_at hd (j := i) (by omega) (i := (i : Int)) (by omega)
  obtain ⟨y, hy, hy1, hy2⟩ := dr_at hd (j := 3 + i) (by omega) (i := 3 + (i : Int)) (by omega)
  obtain ⟨z, hz, hz1, hz2⟩ := dr_at hd (j := 6 + i) (by omega) (i := 6 + (i : Int)) (by omega)
  obtain ⟨n, hn, en⟩ := pick_n x
  obtain ⟨w, ew⟩ := pick_k y
  have hm1 : modR (I x) (I 8) = some (I (x % 8)) := modR_ok (by omega)
  have hm2 : modR (I y) (I 7) = some (I (y % 7)) := modR_ok (by omega)
  have hm3 : modR (I z) (I 50) = some (I (z % 50)) := modR_ok (by omega)
  obtain ⟨k, ek, hk⟩ : ∃ k : Nat, (k : Int) = (if (w : Int) < (n : Int) then (w : Int) else (n : Int)) ∧ k ≤ n := by
    by_cases h : (w : Int) < (n : Int)
    · exact ⟨w, by rw [if_pos h], by omega⟩
    · exact ⟨n, by rw [if_neg h], by omega⟩
  have r1 := row70 n k (by omega) hk
  have r2 := exch70 n k (by omega) hk
  have hch := ch_small hn hk
  have hrl := row_ch hn hk
  have hlt : ∀ t ∈ row n k, t.length = k := row_len n k
  have r3 : gf (tb 70) d__law_is [.v (.tuple ((row n k).map tI)), .v (.tuple ((row n k).map tI))] = some (Bl true) := is70 _ (by
    simp only [gdD, Bool.and_eq_true, decide_eq_true_eq, List.length_map, List.all_eq_true]
    refine ⟨fun d hd => ?_, by omega⟩
    obtain ⟨t, ht, rfl⟩ := List.mem_map.mp hd
    exact gdD_tI 2 t (by have := hlt t ht; omega))
  have r4 := sets70 n hn
  have so1 := row_ok7 hn hk (.bor ((row n k).map tI)) (.inl rfl)
  have so2 := row_ok7 hn hk (.v (.list ((fk n k).map tI))) (.inr rfl)
  have ne := ne_same ((fk n k).map tI) (n := 1) (fun d hd => by
    obtain ⟨t, ht, rfl⟩ := List.mem_map.mp hd
    exact okD_tI 0 t)
  have cB := cmp_filter (b := b1 7) (F := tE (bind2 (caE (agE (vr 7) ag0) (oneR lenR)) (vr 3) (cmpR .Eq))) (E := vr 7) (ρ := [some (.scr ns), some (.own (ds.map .int)), some (I i), some (I k), some (I n), some (.own ((row n k).map tI)), a6, none, a8, a9, a10, a11, a12]) tI tI (fun t => decide (t.length = k)) (sets n) (by
    intro u hu
    refine ⟨_, rfl, ?_, fun _ => ⟨.v (tI u), ?_, rfl⟩⟩
    · have q : decide (((u.length : Nat) : Int) = ((k : Nat) : Int)) = decide (u.length = k) := by
        by_cases h : u.length = k
        · simp [h]
        · have : ¬ ((u.length : Nat) : Int) = ((k : Nat) : Int) := by omega
          simp [h, this]
      simp -implicitDefEqProofs only [bS_ap, kB_nx, kB_ret, kB_bk, kB_ct, bE_ap, sIf_ap, ifE_ap, kIf_t, kIf_f, sAsg_ap, kAs_some, fzI_nil, fzI_cons, mP_ap, kP_some, st1_v, st1_own, stB_v, stB_own, sDoc_ap, sBrk_ap, sCnt_ap, sRet0_ap, sRet_ap, kR_v, kR_own, sRetN_ap, kRN_own, kRN_v, fin_ret, fin_nx, sAug_ap, kAu_some, getE_z, getE_s, vr_ap, kV_v, kV_own, kV_bor, kV_scr, frz1_ap, kZ_own, kZ_v, kZ_bor, ownAt_ap, kOw_own, wipeE_nil, wipeE_cons, kI_ap, kBo_ap, kN_ap, kS_ap, bind2_ap, k2_some, ntE_ap, kNt_bl, ngE_ap, kNg_i, tupE_ap, kTu_0, kTu_1, kTu_2, kTu_3, kTu_4, kTu_5, kTu_6, kTu_7, kTu_8, lstE_ap, kLs_0, kLs_1, kLs_2, kLs_3, ag0_ap, agE_ap, kAg_v, kAg_own, kAg_bor, kAg_scr, oN_ap, oS_ap, kO_i, cutE_ap, kCt_some, slR_tup, slR_list, slR_bor, slR_own, k1_some, rvE_ap, revR_tup, revR_list, revR_bor, revR_own, caE_ap, kC_some, oneR_1, isE_ap, vAnd_ap, kVA_t, kVA_f, vOr_ap, kVO_t, kVO_f, tE_ap, kT_bl, kT_i, kT_non, kT_tup, kT_list, kT_bor, tNot_ap, kTN_some, tAnd_ap, kTA_t, kTA_f, tOr_ap, kTO_t, kTO_f, fTrue_ap, binR_add, binR_sub, binR_mul, binR_div, binR_mod, binR_pow, addR_i, subR_i, cmpR_lt, cmpR_le, cmpR_gt, cmpR_ge, cmpR_eq, cmpR_ne, cmpR_is, cmpR_isn, isNone_non, isNone_i, isNone_b, isNone_t, addR_tup, addR_oo, addR_bo, ixR_bor, ixR_own, ixR_tup, ixR_list, ixR_scr, lenR_tup, lenR_list, lenR_bor, lenR_scr, absR_i, intR_i, minA_2, maxA_2, tupleR_tup, tupleR_list, tupleR_bor, listR_tup, listR_list, listR_bor, sumR_ints, kIt_some, iSeq_ap, iEnum_ap, iRev_ap, seqI_tup, seqI_list, seqI_own, seqI_bor, enumI_tup, enumI_list, enumI_own, enumI_bor, revI_tup, revI_list, revI_own, revI_bor, iRng_ap, kB1_some, stp_ap, sFor_ap, kF_some, b1_ap, bT_2, bT_3, bN_ap, bC_ap, kBC_some, lcE_ap, kLc_some, chainR_ap, kCh_some, kCh2_t, kCh2_f, sApp_ap, kAp_v, kAp_own, isi_ii, isi_ib, isi_is, isi_it, isi_bi, isi_bb, isi_bt, isi_ti, isi_tb, isi_ts, isi_tt, isi_ni, isi_nb, isi_ns, isi_nt, isi_ss, isi_si, isi_sb, isi_st, allLR_b, anyLR_b, in_ints, nin_ints, rgT_ap, rgL_ap, r1E_ap, lenR_tI, List.map_cons, List.map_nil, List.cons_append, List.nil_append, List.length_cons, List.length_nil, Nat.reduceAdd, Nat.reduceSub, List.replicate, List.set_cons_succ, List.set_cons_zero, Option.map_some, if_true, q]
    · simp -implicitDefEqProofs only [bS_ap, kB_nx, kB_ret, kB_bk, kB_ct, bE_ap, sIf_ap, ifE_ap, kIf_t, kIf_f, sAsg_ap, kAs_some, fzI_nil, fzI_cons, mP_ap, kP_some, st1_v, st1_own, stB_v, stB_own, sDoc_ap, sBrk_ap, sCnt_ap, sRet0_ap, sRet_ap, kR_v, kR_own, sRetN_ap, kRN_own, kRN_v, fin_ret, fin_nx, sAug_ap, kAu_some, getE_z, getE_s, vr_ap, kV_v, kV_own, kV_bor, kV_scr, frz1_ap, kZ_own, kZ_v, kZ_bor, ownAt_ap, kOw_own, wipeE_nil, wipeE_cons, kI_ap, kBo_ap, kN_ap, kS_ap, bind2_ap, k2_some, ntE_ap, kNt_bl, ngE_ap, kNg_i, tupE_ap, kTu_0, kTu_1, kTu_2, kTu_3, kTu_4, kTu_5, kTu_6, kTu_7, kTu_8, lstE_ap, kLs_0, kLs_1, kLs_2, kLs_3, ag0_ap, agE_ap, kAg_v, kAg_own, kAg_bor, kAg_scr, oN_ap, oS_ap, kO_i, cutE_ap, kCt_some, slR_tup, slR_list, slR_bor, slR_own, k1_some, rvE_ap, revR_tup, revR_list, revR_bor, revR_own, caE_ap, kC_some, oneR_1, isE_ap, vAnd_ap, kVA_t, kVA_f, vOr_ap, kVO_t, kVO_f, tE_ap, kT_bl, kT_i, kT_non, kT_tup, kT_list, kT_bor, tNot_ap, kTN_some, tAnd_ap, kTA_t, kTA_f, tOr_ap, kTO_t, kTO_f, fTrue_ap, binR_add, binR_sub, binR_mul, binR_div, binR_mod, binR_pow, addR_i, subR_i, cmpR_lt, cmpR_le, cmpR_gt, cmpR_ge, cmpR_eq, cmpR_ne, cmpR_is, cmpR_isn, isNone_non, isNone_i, isNone_b, isNone_t, addR_tup, addR_oo, addR_bo, ixR_bor, ixR_own, ixR_tup, ixR_list, ixR_scr, lenR_tup, lenR_list, lenR_bor, lenR_scr, absR_i, intR_i, minA_2, maxA_2, tupleR_tup, tupleR_list, tupleR_bor, listR_tup, listR_list, listR_bor, sumR_ints, kIt_some, iSeq_ap, iEnum_ap, iRev_ap, seqI_tup, seqI_list, seqI_own, seqI_bor, enumI_tup, enumI_list, enumI_own, enumI_bor, revI_tup, revI_list, revI_own, revI_bor, iRng_ap, kB1_some, stp_ap, sFor_ap, kF_some, b1_ap, bT_2, bT_3, bN_ap, bC_ap, kBC_some, lcE_ap, kLc_some, chainR_ap, kCh_some, kCh2_t, kCh2_f, sApp_ap, kAp_v, kAp_own, isi_ii, isi_ib, isi_is, isi_it, isi_bi, isi_bb, isi_bt, isi_ti, isi_tb, isi_ts, isi_tt, isi_ni, isi_nb, isi_ns, isi_nt, isi_ss, isi_si, isi_sb, isi_st, allLR_b, anyLR_b, in_ints, nin_ints, rgT_ap, rgL_ap, r1E_ap, lenR_tI, List.map_cons, List.map_nil, List.cons_append, List.nil_append, List.length_cons, List.length_nil, Nat.reduceAdd, Nat.reduceSub, List.replicate, List.set_cons_succ, List.set_cons_zero, Option.map_some, if_true])
  rw [show (sets n).filter (fun t => decide (t.length = k)) = fk n k from rfl] at cB
  obtain ⟨b7, b8, L5⟩ := loop5 n k hn hk (some (.scr ns)) (some (.own (ds.map .int))) (some (I i)) a6 a7 a8 a9 a10 a11 a12
  obtain ⟨b6, L4⟩ := loop4 n k hn hk [0, 1 + z % 50, 100000000000000000000] (by
    intro q hq
    simp at hq
    omega) (some (.scr ns)) (some (.own (ds.map .int))) (some (I i)) a6 b7 b8 a9 a10 a11 a12
  simp only [List.map_cons, List.map_nil] at L4
  refine ⟨some (I k), some (I n), some (.v (.list ((row n k).map tI))), b6, b7, b8, ?_⟩
  have eb : enumI (.v (.list ((row n k).map tI))) = some (true, enumD ((row n k).map tI)) := rfl
  generalize ((i : Nat) : Int) = ii at *
  generalize ((n : Nat) : Int) = nn at *
  generalize ((k : Nat) : Int) = kk at *
  generalize ((w : Nat) : Int) = ww at *
  simp -implicitDefEqProofs only [bS_ap, kB_nx, kB_ret, kB_bk, kB_ct, bE_ap, sIf_ap, ifE_ap, kIf_t, kIf_f, sAsg_ap, kAs_some, fzI_nil, fzI_cons, mP_ap, kP_some, st1_v, st1_own, stB_v, stB_own, sDoc_ap, sBrk_ap, sCnt_ap, sRet0_ap, sRet_ap, kR_v, kR_own, sRetN_ap, kRN_own, kRN_v, fin_ret, fin_nx, sAug_ap, kAu_some, getE_z, getE_s, vr_ap, kV_v, kV_own, kV_bor, kV_scr, frz1_ap, kZ_own, kZ_v, kZ_bor, ownAt_ap, kOw_own, wipeE_nil, wipeE_cons, kI_ap, kBo_ap, kN_ap, kS_ap, bind2_ap, k2_some, ntE_ap, kNt_bl, ngE_ap, kNg_i, tupE_ap, kTu_0, kTu_1, kTu_2, kTu_3, kTu_4, kTu_5, kTu_6, kTu_7, kTu_8, lstE_ap, kLs_0, kLs_1, kLs_2, kLs_3, ag0_ap, agE_ap, kAg_v, kAg_own, kAg_bor, kAg_scr, oN_ap, oS_ap, kO_i, cutE_ap, kCt_some, slR_tup, slR_list, slR_bor, slR_own, k1_some, rvE_ap, revR_tup, revR_list, revR_bor, revR_own, caE_ap, kC_some, oneR_1, isE_ap, vAnd_ap, kVA_t, kVA_f, vOr_ap, kVO_t, kVO_f, tE_ap, kT_bl, kT_i, kT_non, kT_tup, kT_list, kT_bor, tNot_ap, kTN_some, tAnd_ap, kTA_t, kTA_f, tOr_ap, kTO_t, kTO_f, fTrue_ap, binR_add, binR_sub, binR_mul, binR_div, binR_mod, binR_pow, addR_i, subR_i, cmpR_lt, cmpR_le, cmpR_gt, cmpR_ge, cmpR_eq, cmpR_ne, cmpR_is, cmpR_isn, isNone_non, isNone_i, isNone_b, isNone_t, addR_tup, addR_oo, addR_bo, ixR_bor, ixR_own, ixR_tup, ixR_list, ixR_scr, lenR_tup, lenR_list, lenR_bor, lenR_scr, absR_i, intR_i, minA_2, maxA_2, tupleR_tup, tupleR_list, tupleR_bor, listR_tup, listR_list, listR_bor, sumR_ints, kIt_some, iSeq_ap, iEnum_ap, iRev_ap, seqI_tup, seqI_list, seqI_own, seqI_bor, enumI_tup, enumI_list, enumI_own, enumI_bor, revI_tup, revI_list, revI_own, revI_bor, iRng_ap, kB1_some, stp_ap, sFor_ap, kF_some, b1_ap, bT_2, bT_3, bN_ap, bC_ap, kBC_some, lcE_ap, kLc_some, chainR_ap, kCh_some, kCh2_t, kCh2_f, sApp_ap, kAp_v, kAp_own, isi_ii, isi_ib, isi_is, isi_it, isi_bi, isi_bb, isi_bt, isi_ti, isi_tb, isi_ts, isi_tt, isi_ni, isi_nb, isi_ns, isi_nt, isi_ss, isi_si, isi_sb, isi_st, allLR_b, anyLR_b, in_ints, nin_ints, rgT_ap, rgL_ap, r1E_ap, lenR_tI, List.map_cons, List.map_nil, List.cons_append, List.nil_append, List.length_cons, List.length_nil, Nat.reduceAdd, Nat.reduceSub, List.replicate, List.set_cons_succ, List.set_cons_zero, Option.map_some, if_true, B_law_6, hx, hm1, en, hy, hm2, ew, ← ek, r1, r2, r3, r4, cB, so1, so2, ne, Bool.not_true, L5, hz, hm3, pow_20, L4]
end Kd

/-! H79l: the law, plainly. -/
namespace Kd
open PySem PySem.Spec PyProof.Rows L2
theorem law_plain (ns : List Int) : gf (tb 71) d_law [.scr ns] = some (Bl true) := by
  rw [gf_eq (sh_law 70) _ rfl]
  obtain ⟨c, hc⟩ := cell70 ns 0
  obtain ⟨ds, hl, hd, hdr⟩ := draws70 c 60 (by omega)
  have e0 : ((0 : Nat) : Int) = 0 := rfl
  have e60 : ((60 : Nat) : Int) = 60 := rfl
  rw [e0] at hc
  rw [e60] at hdr
  have g3 : kRg (some [I (3 : Int)]) = some (true, rngD 0 3) := kRg_nat (n := 3) (by omega)
  have g4 : kRg (some [I (4 : Int)]) = some (true, rngD 0 4) := kRg_nat (n := 4) (by omega)
  have g7 : kRg (some [I (1 : Int), I 7]) = some (true, rngD 1 6) := kRg_2 (a := 1) (b := 7) ⟨by omega, by omega⟩
  obtain ⟨ρ1, f1, b2, b3, b4, b5, b6, b7, b8, rfl⟩ := forL_inv (step := stp (b1 2) (B_law_6 (tb 70))) (ds := rngD 0 3) (fun i ρ => ∃ b2 b3 b4 b5 b6 b7 b8, ρ = [some (.scr ns), some (.own (ds.map .int)), b2, b3, b4, b5, b6, b7, b8, none, none, none, none]) (ρ := [some (.scr ns), some (.own (ds.map .int)), none, none, none, none, none, none, none, none, none, none, none]) ⟨_, _, _, _, _, _, _, rfl⟩ (by
    rintro i d ρ hdd ⟨b2, b3, b4, b5, b6, b7, b8, rfl⟩
    obtain ⟨rfl, hi⟩ := rngD_get hdd
    obtain ⟨c3, c4, c5, c6, c7, c8, e⟩ := step6 ns ds hl hd i hi b2 b3 b4 b5 b6 b7 b8 none none none none
    rw [Int.zero_add]
    exact ⟨_, e, _, _, _, _, _, _, _, rfl⟩)
  obtain ⟨ρ2, f2, d2, d3, d4, d7, d8, rfl⟩ := forL_inv (step := stp (b1 2) (B_law_3 (tb 70))) (ds := rngD 0 4) (fun i ρ => ∃ d2 d3 d4 d7 d8, ρ = [some (.scr ns), some (.own (ds.map .int)), d2, d3, d4, b5, b6, d7, d8, none, none, none, none]) (ρ := [some (.scr ns), some (.own (ds.map .int)), b2, b3, b4, b5, b6, b7, b8, none, none, none, none]) ⟨_, _, _, _, _, rfl⟩ (by
    rintro i d ρ hdd ⟨d2, d3, d4, d7, d8, rfl⟩
    obtain ⟨rfl, hi⟩ := rngD_get hdd
    obtain ⟨c3, c4, c7, c8, e⟩ := step3 ns ds hl hd i hi d2 d3 d4 b5 b6 d7 d8 none none none none
    rw [Int.zero_add]
    exact ⟨_, e, _, _, _, _, _, rfl⟩)
  obtain ⟨ρ3, f3, g, g7', g8, g9, g10, g11, rfl⟩ := forL_inv (step := stp (b1 3) (B_law_2 (tb 70))) (ds := rngD 1 6) (fun i ρ => ∃ g3 g7 g8 g9 g10 g11, ρ = [some (.scr ns), some (.own (ds.map .int)), d2, g3, d4, b5, b6, g7, g8, g9, g10, g11, none]) (ρ := [some (.scr ns), some (.own (ds.map .int)), d2, d3, d4, b5, b6, d7, d8, none, none, none, none]) ⟨_, _, _, _, _, _, rfl⟩ (by
    rintro i d ρ hdd ⟨g3, g7, g8, g9, g10, g11, rfl⟩
    obtain ⟨rfl, hi⟩ := rngD_get hdd
    obtain ⟨c7, c8, c9, c10, c11, e⟩ := step2 ns (1 + i) (by omega) (some (.own (ds.map .int))) d2 g3 d4 b5 b6 g7 g8 g9 g10 g11 none
    have ei : (((1 + i : Nat)) : Int) = 1 + (i : Int) := by omega
    rw [ei] at e
    exact ⟨_, e, _, _, _, _, _, _, rfl⟩)
  simp -implicitDefEqProofs only [bS_ap, kB_nx, kB_ret, kB_bk, kB_ct, bE_ap, sIf_ap, ifE_ap, kIf_t, kIf_f, sAsg_ap, kAs_some, fzI_nil, fzI_cons, mP_ap, kP_some, st1_v, st1_own, stB_v, stB_own, sDoc_ap, sBrk_ap, sCnt_ap, sRet0_ap, sRet_ap, kR_v, kR_own, sRetN_ap, kRN_own, kRN_v, fin_ret, fin_nx, sAug_ap, kAu_some, getE_z, getE_s, vr_ap, kV_v, kV_own, kV_bor, kV_scr, frz1_ap, kZ_own, kZ_v, kZ_bor, ownAt_ap, kOw_own, wipeE_nil, wipeE_cons, kI_ap, kBo_ap, kN_ap, kS_ap, bind2_ap, k2_some, ntE_ap, kNt_bl, ngE_ap, kNg_i, tupE_ap, kTu_0, kTu_1, kTu_2, kTu_3, kTu_4, kTu_5, kTu_6, kTu_7, kTu_8, lstE_ap, kLs_0, kLs_1, kLs_2, kLs_3, ag0_ap, agE_ap, kAg_v, kAg_own, kAg_bor, kAg_scr, oN_ap, oS_ap, kO_i, cutE_ap, kCt_some, slR_tup, slR_list, slR_bor, slR_own, k1_some, rvE_ap, revR_tup, revR_list, revR_bor, revR_own, caE_ap, kC_some, oneR_1, isE_ap, vAnd_ap, kVA_t, kVA_f, vOr_ap, kVO_t, kVO_f, tE_ap, kT_bl, kT_i, kT_non, kT_tup, kT_list, kT_bor, tNot_ap, kTN_some, tAnd_ap, kTA_t, kTA_f, tOr_ap, kTO_t, kTO_f, fTrue_ap, binR_add, binR_sub, binR_mul, binR_div, binR_mod, binR_pow, addR_i, subR_i, cmpR_lt, cmpR_le, cmpR_gt, cmpR_ge, cmpR_eq, cmpR_ne, cmpR_is, cmpR_isn, isNone_non, isNone_i, isNone_b, isNone_t, addR_tup, addR_oo, addR_bo, ixR_bor, ixR_own, ixR_tup, ixR_list, ixR_scr, lenR_tup, lenR_list, lenR_bor, lenR_scr, absR_i, intR_i, minA_2, maxA_2, tupleR_tup, tupleR_list, tupleR_bor, listR_tup, listR_list, listR_bor, sumR_ints, kIt_some, iSeq_ap, iEnum_ap, iRev_ap, seqI_tup, seqI_list, seqI_own, seqI_bor, enumI_tup, enumI_list, enumI_own, enumI_bor, revI_tup, revI_list, revI_own, revI_bor, iRng_ap, kB1_some, stp_ap, sFor_ap, kF_some, b1_ap, bT_2, bT_3, bN_ap, bC_ap, kBC_some, lcE_ap, kLc_some, chainR_ap, kCh_some, kCh2_t, kCh2_f, sApp_ap, kAp_v, kAp_own, isi_ii, isi_ib, isi_is, isi_it, isi_bi, isi_bb, isi_bt, isi_ti, isi_tb, isi_ts, isi_tt, isi_ni, isi_nb, isi_ns, isi_nt, isi_ss, isi_si, isi_sb, isi_st, allLR_b, anyLR_b, in_ints, nin_ints, rgT_ap, rgL_ap, r1E_ap, lenR_tI, List.map_cons, List.map_nil, List.cons_append, List.nil_append, List.length_cons, List.length_nil, Nat.reduceAdd, Nat.reduceSub, List.replicate, List.set_cons_succ, List.set_cons_zero, Option.map_some, if_true, S_law, hc, hdr, g3, g4, g7, f1, f2, f3]
end Kd

set_option maxHeartbeats 0
namespace Kd
open PySem PySem.Spec PyProof.Rows L2
abbrev h_ways_to_take : He.DefD := ⟨("ways_to_take", none), "ways_to_take", "ways_to_take", defArgs d_ways_to_take.st, defBody d_ways_to_take.st, defScope d_ways_to_take.st, [], []⟩
abbrev h_exchange_row : He.DefD := ⟨("exchange_row", none), "exchange_row", "exchange_row", defArgs d_exchange_row.st, defBody d_exchange_row.st, defScope d_exchange_row.st, [], []⟩
abbrev h_place_in_row : He.DefD := ⟨("place_in_row", none), "place_in_row", "place_in_row", defArgs d_place_in_row.st, defBody d_place_in_row.st, defScope d_place_in_row.st, [], []⟩
abbrev h_things_at : He.DefD := ⟨("things_at", none), "things_at", "things_at", defArgs d_things_at.st, defBody d_things_at.st, defScope d_things_at.st, [], []⟩
abbrev h_seat_of : He.DefD := ⟨("seat_of", none), "seat_of", "seat_of", defArgs d_seat_of.st, defBody d_seat_of.st, defScope d_seat_of.st, [], []⟩
abbrev h_set_at_seat : He.DefD := ⟨("set_at_seat", none), "set_at_seat", "set_at_seat", defArgs d_set_at_seat.st, defBody d_set_at_seat.st, defScope d_set_at_seat.st, [], []⟩
abbrev h__law_cell : He.DefD := ⟨("_law_cell", none), "_law_cell", "_law_cell", defArgs d__law_cell.st, defBody d__law_cell.st, defScope d__law_cell.st, [], []⟩
abbrev h__law_draws : He.DefD := ⟨("_law_draws", none), "_law_draws", "_law_draws", defArgs d__law_draws.st, defBody d__law_draws.st, defScope d__law_draws.st, [], []⟩
abbrev h__law_is_integer : He.DefD := ⟨("_law_is_integer", none), "_law_is_integer", "_law_is_integer", defArgs d__law_is_integer.st, defBody d__law_is_integer.st, defScope d__law_is_integer.st, [], []⟩
abbrev h__law_is : He.DefD := ⟨("_law_is", none), "_law_is", "_law_is", defArgs d__law_is.st, defBody d__law_is.st, defScope d__law_is.st, [], []⟩
abbrev h__law_sets : He.DefD := ⟨("_law_sets", none), "_law_sets", "_law_sets", defArgs d__law_sets.st, defBody d__law_sets.st, defScope d__law_sets.st, [], []⟩
abbrev h__law_choose : He.DefD := ⟨("_law_choose", none), "_law_choose", "_law_choose", defArgs d__law_choose.st, defBody d__law_choose.st, defScope d__law_choose.st, [], []⟩
abbrev h__law_row : He.DefD := ⟨("_law_row", none), "_law_row", "_law_row", defArgs d__law_row.st, defBody d__law_row.st, defScope d__law_row.st, [], []⟩
abbrev h__law_far : He.DefD := ⟨("_law_far", none), "_law_far", "_law_far", defArgs d__law_far.st, defBody d__law_far.st, defScope d__law_far.st, [], []⟩
abbrev h__law_exchanged : He.DefD := ⟨("_law_exchanged", none), "_law_exchanged", "_law_exchanged", defArgs d__law_exchanged.st, defBody d__law_exchanged.st, defScope d__law_exchanged.st, [], []⟩
abbrev h__law_taken : He.DefD := ⟨("_law_taken", none), "_law_taken", "_law_taken", defArgs d__law_taken.st, defBody d__law_taken.st, defScope d__law_taken.st, [], []⟩
abbrev h_law : He.DefD := ⟨("law", none), "law", "law", defArgs d_law.st, defBody d_law.st, defScope d_law.st, [], []⟩
def fnD : List He.DefD := [h_ways_to_take, h_exchange_row, h_place_in_row, h_things_at, h_seat_of, h_set_at_seat, h__law_cell, h__law_draws, h__law_is_integer, h__law_is, h__law_sets, h__law_choose, h__law_row, h__law_far, h__law_exchanged, h__law_taken, h_law]
def faD : List He.Fa := [.glo "ways_to_take", .glo "exchange_row", .glo "place_in_row", .glo "things_at", .glo "seat_of", .glo "set_at_seat", .glo "_law_cell", .glo "_law_draws", .glo "_law_is_integer", .glo "_law_is", .glo "_law_sets", .glo "_law_choose", .glo "_law_row", .glo "_law_far", .glo "_law_exchanged", .glo "_law_taken", .glo "law", .free "abs", .free "all", .free "bool", .free "enumerate", .free "int", .free "isinstance", .free "len", .free "list", .free "min", .free "range", .free "reversed", .free "sorted", .free "str", .free "sum", .free "tuple"]
abbrev RR : PySem.W.OpenRow := PySem.W.OpenLaw.row PySem.Challenge.rw_kindhall_k79_whole_exchange_rows_and_sea
abbrev hk : PySem.W.Hook := He.hookD 4 faD fnD
def ob (s : PySem.W.SharedT) : He.AlD := He.obsDG 4 faD fnD (HandSHeadRun.getT s)
theorem ob_eq (s : PySem.W.SharedT) : ob s = hk.obs s.abs := He.obsDG_eq (HandSHeadRun.getT_eq s)
theorem run (w : World) : HandSHeadRun.RunEq RR (PySem.W.view RR.prog [18]) hk ob 4000 ["ways_to_take", "exchange_row", "place_in_row", "things_at", "seat_of", "set_at_seat", "_law_cell", "_law_draws", "_law_is_integer", "_law_is", "_law_sets", "_law_choose", "_law_row", "_law_far", "_law_exchanged", "_law_taken"] w := by
  intro os
  kernel_rfl
section
variable {K : PySem.W.Frag} {h : Heap} {mg : Str → Option Value}
theorem dk_ways_to_take (X : K.In h) (G : h.Ns mainGlobals mg) (c : He.SaysD faD fnD K) : DOk K mg d_ways_to_take where
  sc := ⟨rfl, rfl, rfl, by decide +kernel, rfl, by decide +kernel, by decide +kernel⟩
  fn := by
    obtain ⟨fd, F⟩ := c.def_ 0 (d := h_ways_to_take) rfl
    exact ⟨_, fd, F, He.glo_ok X G (c.fact 0 (f := .glo "ways_to_take") rfl)⟩
  bind := fun kV doc pm an cdv ct us hl => match us, hl with | [_, _], _ => rfl
theorem dk_exchange_row (X : K.In h) (G : h.Ns mainGlobals mg) (c : He.SaysD faD fnD K) : DOk K mg d_exchange_row where
  sc := ⟨rfl, rfl, rfl, by decide +kernel, rfl, by decide +kernel, by decide +kernel⟩
  fn := by
    obtain ⟨fd, F⟩ := c.def_ 1 (d := h_exchange_row) rfl
    exact ⟨_, fd, F, He.glo_ok X G (c.fact 1 (f := .glo "exchange_row") rfl)⟩
  bind := fun kV doc pm an cdv ct us hl => match us, hl with | [_, _], _ => rfl
theorem dk_place_in_row (X : K.In h) (G : h.Ns mainGlobals mg) (c : He.SaysD faD fnD K) : DOk K mg d_place_in_row where
  sc := ⟨rfl, rfl, rfl, by decide +kernel, rfl, by decide +kernel, by decide +kernel⟩
  fn := by
    obtain ⟨fd, F⟩ := c.def_ 2 (d := h_place_in_row) rfl
    exact ⟨_, fd, F, He.glo_ok X G (c.fact 2 (f := .glo "place_in_row") rfl)⟩
  bind := fun kV doc pm an cdv ct us hl => match us, hl with | [_, _], _ => rfl
theorem dk_things_at (X : K.In h) (G : h.Ns mainGlobals mg) (c : He.SaysD faD fnD K) : DOk K mg d_things_at where
  sc := ⟨rfl, rfl, rfl, by decide +kernel, rfl, by decide +kernel, by decide +kernel⟩
  fn := by
    obtain ⟨fd, F⟩ := c.def_ 3 (d := h_things_at) rfl
    exact ⟨_, fd, F, He.glo_ok X G (c.fact 3 (f := .glo "things_at") rfl)⟩
  bind := fun kV doc pm an cdv ct us hl => match us, hl with | [_, _, _], _ => rfl
theorem dk_seat_of (X : K.In h) (G : h.Ns mainGlobals mg) (c : He.SaysD faD fnD K) : DOk K mg d_seat_of where
  sc := ⟨rfl, rfl, rfl, by decide +kernel, rfl, by decide +kernel, by decide +kernel⟩
  fn := by
    obtain ⟨fd, F⟩ := c.def_ 4 (d := h_seat_of) rfl
    exact ⟨_, fd, F, He.glo_ok X G (c.fact 4 (f := .glo "seat_of") rfl)⟩
  bind := fun kV doc pm an cdv ct us hl => match us, hl with | [_], _ => rfl
theorem dk_set_at_seat (X : K.In h) (G : h.Ns mainGlobals mg) (c : He.SaysD faD fnD K) : DOk K mg d_set_at_seat where
  sc := ⟨rfl, rfl, rfl, by decide +kernel, rfl, by decide +kernel, by decide +kernel⟩
  fn := by
    obtain ⟨fd, F⟩ := c.def_ 5 (d := h_set_at_seat) rfl
    exact ⟨_, fd, F, He.glo_ok X G (c.fact 5 (f := .glo "set_at_seat") rfl)⟩
  bind := fun kV doc pm an cdv ct us hl => match us, hl with | [_, _], _ => rfl
theorem dk__law_cell (X : K.In h) (G : h.Ns mainGlobals mg) (c : He.SaysD faD fnD K) : DOk K mg d__law_cell where
  sc := ⟨rfl, rfl, rfl, by decide +kernel, rfl, by decide +kernel, by decide +kernel⟩
  fn := by
    obtain ⟨fd, F⟩ := c.def_ 6 (d := h__law_cell) rfl
    exact ⟨_, fd, F, He.glo_ok X G (c.fact 6 (f := .glo "_law_cell") rfl)⟩
  bind := fun kV doc pm an cdv ct us hl => match us, hl with | [_, _], _ => rfl
theorem dk__law_draws (X : K.In h) (G : h.Ns mainGlobals mg) (c : He.SaysD faD fnD K) : DOk K mg d__law_draws where
  sc := ⟨rfl, rfl, rfl, by decide +kernel, rfl, by decide +kernel, by decide +kernel⟩
  fn := by
    obtain ⟨fd, F⟩ := c.def_ 7 (d := h__law_draws) rfl
    exact ⟨_, fd, F, He.glo_ok X G (c.fact 7 (f := .glo "_law_draws") rfl)⟩
  bind := fun kV doc pm an cdv ct us hl => match us, hl with | [_, _], _ => rfl
theorem dk__law_is_integer (X : K.In h) (G : h.Ns mainGlobals mg) (c : He.SaysD faD fnD K) : DOk K mg d__law_is_integer where
  sc := ⟨rfl, rfl, rfl, by decide +kernel, rfl, by decide +kernel, by decide +kernel⟩
  fn := by
    obtain ⟨fd, F⟩ := c.def_ 8 (d := h__law_is_integer) rfl
    exact ⟨_, fd, F, He.glo_ok X G (c.fact 8 (f := .glo "_law_is_integer") rfl)⟩
  bind := fun kV doc pm an cdv ct us hl => match us, hl with | [_], _ => rfl
theorem dk__law_is (X : K.In h) (G : h.Ns mainGlobals mg) (c : He.SaysD faD fnD K) : DOk K mg d__law_is where
  sc := ⟨rfl, rfl, rfl, by decide +kernel, rfl, by decide +kernel, by decide +kernel⟩
  fn := by
    obtain ⟨fd, F⟩ := c.def_ 9 (d := h__law_is) rfl
    exact ⟨_, fd, F, He.glo_ok X G (c.fact 9 (f := .glo "_law_is") rfl)⟩
  bind := fun kV doc pm an cdv ct us hl => match us, hl with | [_, _], _ => rfl
theorem dk__law_sets (X : K.In h) (G : h.Ns mainGlobals mg) (c : He.SaysD faD fnD K) : DOk K mg d__law_sets where
  sc := ⟨rfl, rfl, rfl, by decide +kernel, rfl, by decide +kernel, by decide +kernel⟩
  fn := by
    obtain ⟨fd, F⟩ := c.def_ 10 (d := h__law_sets) rfl
    exact ⟨_, fd, F, He.glo_ok X G (c.fact 10 (f := .glo "_law_sets") rfl)⟩
  bind := fun kV doc pm an cdv ct us hl => match us, hl with | [_], _ => rfl
theorem dk__law_choose (X : K.In h) (G : h.Ns mainGlobals mg) (c : He.SaysD faD fnD K) : DOk K mg d__law_choose where
  sc := ⟨rfl, rfl, rfl, by decide +kernel, rfl, by decide +kernel, by decide +kernel⟩
  fn := by
    obtain ⟨fd, F⟩ := c.def_ 11 (d := h__law_choose) rfl
    exact ⟨_, fd, F, He.glo_ok X G (c.fact 11 (f := .glo "_law_choose") rfl)⟩
  bind := fun kV doc pm an cdv ct us hl => match us, hl with | [_, _], _ => rfl
theorem dk__law_row (X : K.In h) (G : h.Ns mainGlobals mg) (c : He.SaysD faD fnD K) : DOk K mg d__law_row where
  sc := ⟨rfl, rfl, rfl, by decide +kernel, rfl, by decide +kernel, by decide +kernel⟩
  fn := by
    obtain ⟨fd, F⟩ := c.def_ 12 (d := h__law_row) rfl
    exact ⟨_, fd, F, He.glo_ok X G (c.fact 12 (f := .glo "_law_row") rfl)⟩
  bind := fun kV doc pm an cdv ct us hl => match us, hl with | [_, _], _ => rfl
theorem dk__law_far (X : K.In h) (G : h.Ns mainGlobals mg) (c : He.SaysD faD fnD K) : DOk K mg d__law_far where
  sc := ⟨rfl, rfl, rfl, by decide +kernel, rfl, by decide +kernel, by decide +kernel⟩
  fn := by
    obtain ⟨fd, F⟩ := c.def_ 13 (d := h__law_far) rfl
    exact ⟨_, fd, F, He.glo_ok X G (c.fact 13 (f := .glo "_law_far") rfl)⟩
  bind := fun kV doc pm an cdv ct us hl => match us, hl with | [_, _], _ => rfl
theorem dk__law_exchanged (X : K.In h) (G : h.Ns mainGlobals mg) (c : He.SaysD faD fnD K) : DOk K mg d__law_exchanged where
  sc := ⟨rfl, rfl, rfl, by decide +kernel, rfl, by decide +kernel, by decide +kernel⟩
  fn := by
    obtain ⟨fd, F⟩ := c.def_ 14 (d := h__law_exchanged) rfl
    exact ⟨_, fd, F, He.glo_ok X G (c.fact 14 (f := .glo "_law_exchanged") rfl)⟩
  bind := fun kV doc pm an cdv ct us hl => match us, hl with | [_, _], _ => rfl
theorem dk__law_taken (X : K.In h) (G : h.Ns mainGlobals mg) (c : He.SaysD faD fnD K) : DOk K mg d__law_taken where
  sc := ⟨rfl, rfl, rfl, by decide +kernel, rfl, by decide +kernel, by decide +kernel⟩
  fn := by
    obtain ⟨fd, F⟩ := c.def_ 15 (d := h__law_taken) rfl
    exact ⟨_, fd, F, He.glo_ok X G (c.fact 15 (f := .glo "_law_taken") rfl)⟩
  bind := fun kV doc pm an cdv ct us hl => match us, hl with | [_, _, _], _ => rfl
theorem dk_law (X : K.In h) (G : h.Ns mainGlobals mg) (c : He.SaysD faD fnD K) : DOk K mg d_law where
  sc := ⟨rfl, rfl, rfl, by decide +kernel, rfl, by decide +kernel, by decide +kernel⟩
  fn := by
    obtain ⟨fd, F⟩ := c.def_ 16 (d := h_law) rfl
    exact ⟨_, fd, F, He.glo_ok X G (c.fact 16 (f := .glo "law") rfl)⟩
  bind := fun kV doc pm an cdv ct us hl => match us, hl with | [_], _ => rfl
theorem fr_ok (X : K.In h) (G : h.Ns mainGlobals mg) (c : He.SaysD faD fnD K) : ∀ x ∈ fr, mg x = none := by
  intro x hx
  simp only [fr, List.mem_cons, List.not_mem_nil, or_false] at hx
  rcases hx with rfl | rfl | rfl | rfl | rfl | rfl | rfl | rfl | rfl | rfl | rfl | rfl | rfl | rfl | rfl
  · exact He.free_ok X G (c.fact 17 (f := .free "abs") rfl)
  · exact He.free_ok X G (c.fact 18 (f := .free "all") rfl)
  · exact He.free_ok X G (c.fact 19 (f := .free "bool") rfl)
  · exact He.free_ok X G (c.fact 20 (f := .free "enumerate") rfl)
  · exact He.free_ok X G (c.fact 21 (f := .free "int") rfl)
  · exact He.free_ok X G (c.fact 22 (f := .free "isinstance") rfl)
  · exact He.free_ok X G (c.fact 23 (f := .free "len") rfl)
  · exact He.free_ok X G (c.fact 24 (f := .free "list") rfl)
  · exact He.free_ok X G (c.fact 25 (f := .free "min") rfl)
  · exact He.free_ok X G (c.fact 26 (f := .free "range") rfl)
  · exact He.free_ok X G (c.fact 27 (f := .free "reversed") rfl)
  · exact He.free_ok X G (c.fact 28 (f := .free "sorted") rfl)
  · exact He.free_ok X G (c.fact 29 (f := .free "str") rfl)
  · exact He.free_ok X G (c.fact 30 (f := .free "sum") rfl)
  · exact He.free_ok X G (c.fact 31 (f := .free "tuple") rfl)
theorem defs_ok (X : K.In h) (G : h.Ns mainGlobals mg) (c : He.SaysD faD fnD K) : ∀ d ∈ defs, DOk K mg d := by
  intro d hd
  simp only [defs, List.mem_cons, List.not_mem_nil, or_false] at hd
  rcases hd with rfl | rfl | rfl | rfl | rfl | rfl | rfl | rfl | rfl | rfl | rfl | rfl | rfl | rfl | rfl | rfl | rfl
  · exact dk_ways_to_take X G c
  · exact dk_exchange_row X G c
  · exact dk_place_in_row X G c
  · exact dk_things_at X G c
  · exact dk_seat_of X G c
  · exact dk_set_at_seat X G c
  · exact dk__law_cell X G c
  · exact dk__law_draws X G c
  · exact dk__law_is_integer X G c
  · exact dk__law_is X G c
  · exact dk__law_sets X G c
  · exact dk__law_choose X G c
  · exact dk__law_row X G c
  · exact dk__law_far X G c
  · exact dk__law_exchanged X G c
  · exact dk__law_taken X G c
  · exact dk_law X G c
end
end Kd
open PySem PySem.W PySem.Calls PyProof.Rows
theorem PySem.Challenge.cw_kindhall_k79_whole_exchange_rows_and_sea_holds : PySem.Challenge.rw_kindhall_k79_whole_exchange_rows_and_sea.Holds := by
  w_on; o_law
  refine HandSHeadRun.head_any (r := OpenLaw.row PySem.Challenge.rw_kindhall_k79_whole_exchange_rows_and_sea) (q := view (OpenLaw.row PySem.Challenge.rw_kindhall_k79_whole_exchange_rows_and_sea).prog [18]) (H := Kd.hk) (ob := Kd.ob) (M := 4000) (loose := ["ways_to_take", "exchange_row", "place_in_row", "things_at", "seat_of", "set_at_seat", "_law_cell", "_law_draws", "_law_is_integer", "_law_is", "_law_sets", "_law_choose", "_law_row", "_law_far", "_law_exchanged", "_law_taken"]) (d := HandSHeadRun.topDef (OpenLaw.row PySem.Challenge.rw_kindhall_k79_whole_exchange_rows_and_sea).prog 18) (kwd := []) Kd.ob_eq
    (by kernel_rfl) (fun s => by kernel_rfl) Kd.run (by kernel_rfl) (by kernel_rfl) (by kernel_rfl) (by rfl) (by first | assumption | decide +kernel) (by decide +kernel) ⟨rfl, rfl, rfl, rfl, rfl, by decide +kernel⟩ ?hw ?hc
  case hw => w_witness2
  case hc =>
    refine L2.walk_ofE (l := PySem.Challenge.rw_kindhall_k79_whole_exchange_rows_and_sea) (n := 63) (k := 72) (x := "script") (CX := L2.CX0) rfl (by decide) (by kernel_rfl) ⟨rfl, by decide, by decide⟩ ?F (fun _ _ _ _ z => z)
    intro w mg fa h Y G hmg0
    obtain ⟨K, KX, c⟩ := Y
    have hmg : mg ("law" : PySem.Str) = some (.ref fa) := by
      have e : (HandSHeadRun.topDef (OpenLaw.row PySem.Challenge.rw_kindhall_k79_whole_exchange_rows_and_sea).prog 18).name = ("law" : PySem.Str) := by kernel_rfl
      rw [← e]
      exact hmg0
    obtain ⟨fd, sp, hb, hs, hF⟩ := Kd.law_ok (P := (PySem.Challenge.rw_kindhall_k79_whole_exchange_rows_and_sea).prog) (w := w) (d := Kd.d_law) (defs := Kd.defs) (fr := Kd.fr) (n := 71) (p := "script") (Kd.fr_ok KX G c) (Kd.defs_ok KX G c) (by simp only [Kd.defs, List.mem_cons, true_or, or_true]) rfl hmg (fun ns _ => Kd.law_plain ns)
    exact ⟨K, fd, sp, KX, hb, fun H a ns hl _ hS => hs H a ns hl hS, fun base _ _ => hF base⟩

