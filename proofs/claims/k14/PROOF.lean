import PyProof.Rows.All
import Wide.All
import OpenK.AllK
import Wide.FinOn
import HandS.Dict
import HandS.ForMost
import HandS.ForExc
import HandS.Wide
import HandS.IsInst
import HandS.Strs
import HandS.Zip
import HandS.TupAny
import HandS.SortInts
import HandS.Defaults
import HandS.HeadHook1
import HandS.HeadHook2
import HandS.HeadHook3
import HandS.HeadHook4
import HandS.HeadEnd
import HandS.Head0
import HandS.Head1
import HandS.Head2
import HandS.Lambda
import HandS.Style
import HandS.Conv
import HandS.SetFor
import HandS.TupSets
import KE.KRevSl
import HandS.ExcValue
import KE.KExcInit
import HandS.ExcInit
import HandS.ExcField
import HandS.TryOnly
import HandS.TryMany
import HandS.RaiseMore
import HandS.EndTab
import PyProof.ReprRoads
import PySem.Challenge.RW_whichsums_k14_whole_sets_of_two
import KE.KStateDown
import Lean
section
set_option Elab.async false
set_option linter.all false
set_option maxRecDepth 100000
/-! DL: a value-level layer over HandS. Data, what represents it, states of a def's body by values. -/
namespace DL
open PySem PySem.Spec L2
open PyProof.Rows hiding St

/-- the tables of code objects that the program's defs make things by -/
class Tb0 where
  T : PySem.W.Frag → List (Addr × Str)
/-- plain data; glo x: what the module's name x stands for; scr: the script; emp: an empty dict -/
inductive D where
  | non | bl (b : Bool) | int (i : Int) | str (x : Str) | tup (ds : List D) | lst (ds : List D) | glo (x : Str) | scr (ns : List Int) | emp

mutual
/-- v represents the data over the tracked part F -/
inductive Dq (K : PySem.W.Frag) (F : Hp) : V → D → Prop
  | non : Dq K F .non .non
  | bl (b : Bool) : Dq K F (.bl b) (.bl b)
  | int (i : Int) : Dq K F (.int i) (.int i)
  | str (x : Str) : Dq K F (.str x) (.str x)
  | tup {a : Addr} {xs : List V} {ds : List D} : SqT K F a xs → DqA K F xs ds → Dq K F (.ref a) (.tup ds)
  | lst {a : Addr} {xs : List V} {ds : List D} : F a = some (.lst xs) → DqA K F xs ds → Dq K F (.ref a) (.lst ds)
  | glo (x : Str) : Dq K F (.ref (He.ga K x)) (.glo x)
  | scr {a : Addr} {ns : List Int} : SqL K F a (ns.map V.int) → Dq K F (.ref a) (.scr ns)
  | emp {a : Addr} : F a = some (.dK []) → Dq K F (.ref a) .emp
inductive DqA (K : PySem.W.Frag) (F : Hp) : List V → List D → Prop
  | nil : DqA K F [] []
  | cons {v : V} {vs : List V} {d : D} {ds : List D} : Dq K F v d → DqA K F vs ds → DqA K F (v :: vs) (d :: ds)
end

theorem _root_.L2.Same.seqT {K : PySem.W.Frag} {H H' : Hp} {a : Addr} {xs : List V} (e : Same H H') (h : SqT K H a xs) : SqT K H' a xs := by
  rcases h with (h | ⟨o, h⟩) | h
  · exact .inl (.inl (e _ _ h))
  · exact .inl (.inr ⟨o, e _ _ h⟩)
  · exact .inr h
section
variable {K : PySem.W.Frag} {F F' : Hp}
mutual
theorem Dq.mono (e : Same F F') : ∀ {v : V} (d : D), Dq K F v d → Dq K F' v d
  | _, .non, h => by cases h; exact .non
  | _, .bl _, h => by cases h; exact .bl _
  | _, .int _, h => by cases h; exact .int _
  | _, .str _, h => by cases h; exact .str _
  | _, .glo _, h => by cases h; exact .glo _
  | _, .tup ds, h => by cases h with | tup s a => exact .tup (e.seqT s) (DqA.mono e ds a)
  | _, .lst ds, h => by cases h with | lst s a => exact .lst (e _ _ s) (DqA.mono e ds a)
  | _, .scr ns, h => by cases h with | scr s => exact .scr (e.seq s)
  | _, .emp, h => by cases h with | emp s => exact .emp (e _ _ s)
theorem DqA.mono (e : Same F F') : ∀ {vs : List V} (ds : List D), DqA K F vs ds → DqA K F' vs ds
  | _, [], h => by cases h; exact .nil
  | _, d :: ds, h => by cases h with | cons a b => exact .cons (Dq.mono e d a) (DqA.mono e ds b)
end
theorem Dq.m (e : Same F F') {v : V} {d : D} (h : Dq K F v d) : Dq K F' v d := Dq.mono e d h
theorem DqA.m (e : Same F F') {v : List V} {d : List D} (h : DqA K F v d) : DqA K F' v d := DqA.mono e d h
theorem DqA.length : ∀ {vs : List V} {ds : List D}, DqA K F vs ds → vs.length = ds.length
  | _, _, .nil => rfl
  | _, _, .cons _ t => by simp [DqA.length t]
theorem DqA.get : ∀ {vs : List V} {ds : List D} {i : Nat} {d : D}, DqA K F vs ds → ds[i]? = some d → ∃ v, vs[i]? = some v ∧ Dq K F v d
  | _, _, _, _, .nil, e => by simp at e
  | _, _, 0, _, .cons r _, e => by simp at e; subst e; exact ⟨_, rfl, r⟩
  | _, _, i + 1, _, .cons _ t, e => by
    obtain ⟨v, h1, h2⟩ := DqA.get (i := i) t (by simpa using e)
    exact ⟨v, by simpa using h1, h2⟩
theorem DqA.getV : ∀ {vs : List V} {ds : List D} {i : Nat} {v : V}, DqA K F vs ds → vs[i]? = some v → ∃ d, ds[i]? = some d ∧ Dq K F v d
  | _, _, _, _, .nil, e => by simp at e
  | _, _, 0, _, .cons r _, e => by simp at e; subst e; exact ⟨_, rfl, r⟩
  | _, _, i + 1, _, .cons _ t, e => by
    obtain ⟨d, h1, h2⟩ := DqA.getV (i := i) t (by simpa using e)
    exact ⟨d, by simpa using h1, h2⟩
theorem DqA.append : ∀ {vs ws : List V} {ds es : List D}, DqA K F vs ds → DqA K F ws es → DqA K F (vs ++ ws) (ds ++ es)
  | _, _, _, _, .nil, t => t
  | _, _, _, _, .cons r s, t => .cons r (DqA.append s t)
theorem DqA.drop : ∀ {vs : List V} {ds : List D} (n : Nat), DqA K F vs ds → DqA K F (vs.drop n) (ds.drop n)
  | _, _, 0, h => h
  | _, _, _ + 1, .nil => .nil
  | _, _, n + 1, .cons _ t => DqA.drop n t
theorem DqA.take : ∀ {vs : List V} {ds : List D} (n : Nat), DqA K F vs ds → DqA K F (vs.take n) (ds.take n)
  | _, _, 0, _ => .nil
  | _, _, _ + 1, .nil => .nil
  | _, _, n + 1, .cons r t => .cons r (DqA.take n t)
theorem DqA.set : ∀ {vs : List V} {ds : List D} (n : Nat) {v : V} {d : D}, DqA K F vs ds → Dq K F v d → DqA K F (vs.set n v) (ds.set n d)
  | _, _, _, _, _, .nil, _ => .nil
  | _, _, 0, _, _, .cons _ t, q => .cons q t
  | _, _, n + 1, _, _, .cons r t, q => .cons r (DqA.set n t q)
theorem DqA.dropLast : ∀ {vs : List V} {ds : List D}, DqA K F vs ds → DqA K F vs.dropLast ds.dropLast := fun {vs ds} h => by
  rw [List.dropLast_eq_take, List.dropLast_eq_take, h.length]
  exact h.take _
theorem DqA.erase : ∀ {vs : List V} {ds : List D} (n : Nat), DqA K F vs ds → DqA K F (vs.eraseIdx n) (ds.eraseIdx n)
  | _, _, _, .nil => .nil
  | _, _, 0, .cons _ t => t
  | _, _, n + 1, .cons r t => .cons r (DqA.erase n t)
theorem DqA.rev : ∀ {vs : List V} {ds : List D}, DqA K F vs ds → DqA K F vs.reverse ds.reverse
  | _, _, .nil => .nil
  | _, _, .cons r t => by
    rw [List.reverse_cons, List.reverse_cons]
    exact (DqA.rev t).append (.cons r .nil)
theorem DqA.one {v : V} {d : D} (h : Dq K F v d) : DqA K F [v] [d] := .cons h .nil
theorem DqA.ints : ∀ {vs : List V} {ns : List Int}, DqA K F vs (ns.map D.int) → vs = ns.map V.int
  | [], [], _ => rfl
  | _, _ :: _, .cons r t => by cases r; rw [DqA.ints t]; rfl
theorem DqA.ofInts : ∀ ns : List Int, DqA K F (ns.map V.int) (ns.map D.int)
  | [] => .nil
  | n :: ns => .cons (.int n) (DqA.ofInts ns)
theorem DqA.bls : ∀ {vs : List V} {bs : List Bool}, DqA K F vs (bs.map D.bl) → vs = bs.map V.bl
  | [], [], _ => rfl
  | _, _ :: _, .cons r t => by cases r; rw [DqA.bls t]; rfl
theorem DqA.rep {v : V} {d : D} (h : Dq K F v d) : ∀ n, DqA K F (List.replicate n v) (List.replicate n d)
  | 0 => .nil
  | n + 1 => .cons h (DqA.rep h n)
theorem DqA.repL {vs : List V} {ds : List D} (h : DqA K F vs ds) : ∀ n, DqA K F (List.replicate n vs).flatten (List.replicate n ds).flatten
  | 0 => .nil
  | n + 1 => by
    rw [List.replicate_succ, List.replicate_succ, List.flatten_cons, List.flatten_cons]
    exact h.append (DqA.repL h n)
end

/-! ### heaps that grew by new things alone -/
structure Alloc (F H F' H' : Hp) : Prop where
  ff : Same F F'
  hh : Same H H'
  fh : Same F' H'
  nf : ∀ a, H a ≠ none → F a = none → F' a = none
  nt : (∀ a ps, F a ≠ some (.tbl ps)) → ∀ a ps, F' a ≠ some (.tbl ps)
theorem Alloc.refl {F H : Hp} (h : Same F H) : Alloc F H F H := ⟨Same.refl _, Same.refl _, h, fun _ _ h => h, fun h => h⟩
theorem Alloc.trans {F H F1 H1 F2 H2 : Hp} (a : Alloc F H F1 H1) (b : Alloc F1 H1 F2 H2) : Alloc F H F2 H2 :=
  ⟨a.ff.trans b.ff, a.hh.trans b.hh, b.fh, fun c h1 h2 => b.nf c (fun z => h1 ((a.hh).free z)) (a.nf c h1 h2), fun h => b.nt (a.nt h)⟩
theorem same_upd {H : Hp} {p : Addr} {o : HO} (h : H p = none) : Same H (upd H p o) := fun b x e => by
  rw [upd_ne (ne_of_none e h)]
  exact e
theorem none_of_same {F H : Hp} (e : Same F H) {p : Addr} (h : H p = none) : F p = none := e.free h
/-- a new immutable thing -/
theorem Alloc.new {F H : Hp} (e : Same F H) {p : Addr} (h : H p = none) (o : HO) (ho : ∀ ps, o ≠ .tbl ps := by intro _ z; cases z) : Alloc F H (upd F p o) (upd H p o) := by
  have hf := none_of_same e h
  refine ⟨same_upd hf, same_upd h, fun b x q => ?_, fun a h1 h2 => ?_, fun k a ps q => ?_⟩
  · by_cases hb : b = p
    · subst hb; rw [upd_same] at q ⊢; exact q
    · rw [upd_ne hb] at q ⊢; exact e b x q
  · have : a ≠ p := fun z => h1 (z ▸ h)
    rw [upd_ne this]; exact h2
  · by_cases hb : a = p
    · rw [hb, upd_same] at q; exact ho ps (Option.some.inj q)
    · rw [upd_ne hb] at q; exact k a ps q
/-- a new thing that is not frozen -/
theorem Alloc.newO {F H : Hp} (e : Same F H) {p : Addr} (h : H p = none) (o : HO) : Alloc F H F (upd H p o) :=
  ⟨Same.refl _, same_upd h, e.trans (same_upd h), fun _ _ h => h, fun h => h⟩

/-! ### what a body knows of its slots -/
inductive Sl where
  /-- nothing -/
  | no
  /-- data -/
  | d (x : D)
  /-- a list of one's own (b: the b-th that the caller handed in to be changed) -/
  | o (b : Option Nat) (xs : List D)
abbrev Rho := List Sl

/-- a body's ground: the heap and its frozen part at the entry, what may be changed of it -/
structure Wd where
  H0 : Hp
  F0 : Hp
  B : List Addr
structure Cfg [Tb0] (K : PySem.W.Frag) (W : Wd) (F H : Hp) : Prop where
  fh : Same F H
  ff : Same W.F0 F
  hh : ∀ a o, W.H0 a = some o → a ∉ W.B → H a = some o
  n0 : ∀ a ps, W.H0 a ≠ some (.tbl ps)
  nf : ∀ a, W.H0 a ≠ none → W.F0 a = none → F a = none
  bb : ∀ a ∈ W.B, ∃ vs, H a = some (.lst vs)
  tb : LamX.Tabs (Tb0.T K) H
  nt : ∀ a ps, F a ≠ some (.tbl ps)
theorem Cfg.hn [Tb0] {K : PySem.W.Frag} {W : Wd} {F H : Hp} (c : Cfg K W F H) (a : Addr) (h : W.H0 a ≠ none) : H a ≠ none := by
  by_cases hb : a ∈ W.B
  · obtain ⟨vs, e⟩ := c.bb a hb
    rw [e]; exact fun z => nomatch z
  · cases q : W.H0 a with
    | none => exact absurd q h
    | some o => rw [c.hh a o q hb]; exact fun z => nomatch z
theorem Cfg.bn [Tb0] {K : PySem.W.Frag} {W : Wd} {F H : Hp} (c : Cfg K W F H) {a : Addr} (h : a ∈ W.B) : H a ≠ none := by
  obtain ⟨vs, e⟩ := c.bb a h
  rw [e]; exact fun z => nomatch z
/-- the heap without the tables -/
def noT (H : Hp) : Hp := fun a => match H a with
  | some (.tbl _) => none
  | o => o
theorem noT_some {H : Hp} {a : Addr} {o : HO} (h : noT H a = some o) : H a = some o ∧ ∀ ps, o ≠ .tbl ps := by
  unfold noT at h
  cases q : H a with
  | none => rw [q] at h; cases h
  | some u =>
    rw [q] at h
    cases u <;> (first | (cases h; exact ⟨rfl, fun _ z => nomatch z⟩) | cases h)
theorem noT_of {H : Hp} {a : Addr} {o : HO} (h : H a = some o) (k : ∀ ps, o ≠ .tbl ps) : noT H a = some o := by
  unfold noT
  rw [h]
  cases o <;> first | rfl | exact absurd rfl (k _)
theorem noT_none {H : Hp} {a : Addr} (h : H a = none) : noT H a = none := by unfold noT; rw [h]
def OwnBy (W : Wd) (a : Addr) : Option Nat → Prop
  | none => W.H0 a = none ∧ a ∉ W.B
  | some k => W.B[k]? = some a
def OwnAt (K : PySem.W.Frag) (W : Wd) (F H : Hp) (b : Option Nat) (a : Addr) (xs : List D) : Prop :=
  (∃ vs, H a = some (.lst vs) ∧ DqA K F vs xs) ∧ F a = none ∧ OwnBy W a b
def SlOk (K : PySem.W.Frag) (W : Wd) (F H : Hp) : Sl → Option V → Prop
  | .no, _ => True
  | .d x, v => ∃ u, v = some u ∧ Dq K F u x
  | .o b xs, v => ∃ a, v = some (.ref a) ∧ OwnAt K W F H b a xs
structure StOk [Tb0] (K : PySem.W.Frag) (W : Wd) (ρ : Rho) (σ : St) (F H : Hp) : Prop where
  cfg : Cfg K W F H
  len : ρ.length = σ.length
  sl : ∀ (i : Nat) (s : Sl), ρ[i]? = some s → ∃ v, σ[i]? = some v ∧ SlOk K W F H s v
  dis : ∀ (i j : Nat) (a : Addr) (b c : Option Nat) (xs ys : List D), i ≠ j → ρ[i]? = some (.o b xs) → ρ[j]? = some (.o c ys) → σ[i]? = some (some (.ref a)) → σ[j]? ≠ some (some (.ref a))

section
variable [Tb0] {K : PySem.W.Frag} {W : Wd} {ρ : Rho} {σ : St} {F H F' H' : Hp}
theorem tabs_write {T : List (Addr × Str)} {a : Addr} {vs : List V} {o : HO} (t : LamX.Tabs T H) (e : H a = some (.lst vs)) : LamX.Tabs T (upd H a o) := fun p hp => by
  obtain ⟨ps, h1, h2, h3⟩ := t p hp
  refine ⟨ps, by rw [upd_ne (fun z => by rw [z, e] at h1; cases h1)]; exact h1, h2, fun pos cv hc => ?_⟩
  obtain ⟨c, e1, e2⟩ := h3 pos cv hc
  exact ⟨c, e1, by rw [upd_ne (fun z => by rw [z, e] at e2; cases e2)]; exact e2⟩
theorem tabs_upd {T : List (Addr × Str)} {a : Addr} {o : HO} (t : LamX.Tabs T H) (e : H a = none ∨ ∃ vs, H a = some (.lst vs)) : LamX.Tabs T (upd H a o) := by
  rcases e with e | ⟨vs, e⟩
  · exact t.ext fun b u q => by rw [upd_ne (ne_of_none q e)]; exact q
  · exact tabs_write t e
theorem Cfg.alloc (c : Cfg K W F H) (a : Alloc F H F' H') : Cfg K W F' H' where
  fh := a.fh
  ff := c.ff.trans a.ff
  hh := fun b o h1 h2 => a.hh _ _ (c.hh b o h1 h2)
  n0 := c.n0
  nf := fun b h1 h2 => a.nf b (c.hn b h1) (c.nf b h1 h2)
  bb := fun b hb => let ⟨vs, e⟩ := c.bb b hb; ⟨vs, a.hh _ _ e⟩
  tb := c.tb.ext a.hh
  nt := a.nt c.nt
theorem SlOk.alloc {s : Sl} {v : Option V} (a : Alloc F H F' H') (h : SlOk K W F H s v) : SlOk K W F' H' s v := by
  cases s with
  | no => trivial
  | d x => obtain ⟨u, e, q⟩ := h; exact ⟨u, e, q.m a.ff⟩
  | o b xs =>
    obtain ⟨p, e, ⟨vs, e1, e2⟩, e3, e4⟩ := h
    exact ⟨p, e, ⟨vs, a.hh _ _ e1, e2.m a.ff⟩, a.nf p (by rw [e1]; exact fun z => nomatch z) e3, e4⟩
theorem StOk.alloc (S : StOk K W ρ σ F H) (a : Alloc F H F' H') : StOk K W ρ σ F' H' where
  cfg := S.cfg.alloc a
  len := S.len
  sl := fun i s e => let ⟨v, h1, h2⟩ := S.sl i s e; ⟨v, h1, h2.alloc a⟩
  dis := S.dis
theorem StOk.fh (S : StOk K W ρ σ F H) : Same F H := S.cfg.fh
theorem StOk.data (S : StOk K W ρ σ F H) {i : Nat} {x : D} (e : ρ[i]? = some (.d x)) : ∃ v, σ[i]? = some (some v) ∧ Dq K F v x := by
  obtain ⟨v, h1, u, rfl, q⟩ := S.sl i _ e
  exact ⟨u, h1, q⟩
theorem StOk.own (S : StOk K W ρ σ F H) {i : Nat} {b : Option Nat} {xs : List D} (e : ρ[i]? = some (.o b xs)) : ∃ a, σ[i]? = some (some (.ref a)) ∧ OwnAt K W F H b a xs := by
  obtain ⟨v, h1, a, rfl, q⟩ := S.sl i _ e
  exact ⟨a, h1, q⟩
/-- a fresh address stands in none of the ground -/
theorem StOk.freshT (S : StOk K W ρ σ F H) {p : Addr} (h : noT H p = none) : (W.H0 p = none ∧ p ∉ W.B) ∧ W.F0 p = none ∧ F p = none := by
  have nB : p ∉ W.B := fun z => by
    obtain ⟨vs, e⟩ := S.cfg.bb p z
    rw [noT_of e fun _ z => nomatch z] at h; cases h
  have h1 : F p = none := by
    cases q : F p with
    | none => rfl
    | some o => rw [noT_of (S.cfg.fh p o q) fun ps z => S.cfg.nt p ps (q.trans (congrArg some z))] at h; cases h
  refine ⟨⟨?_, nB⟩, none_of_same S.cfg.ff h1, h1⟩
  cases q : W.H0 p with
  | none => rfl
  | some o => rw [noT_of (S.cfg.hh p o q nB) fun ps z => S.cfg.n0 p ps (q.trans (congrArg some z))] at h; cases h
theorem StOk.fresh (S : StOk K W ρ σ F H) {p : Addr} (h : H p = none) : (W.H0 p = none ∧ p ∉ W.B) ∧ W.F0 p = none ∧ F p = none := S.freshT (noT_none h)
/-- a slot's data stored -/
theorem StOk.setD (S : StOk K W ρ σ F H) (i : Nat) {v : V} {x : D} (q : Dq K F v x) : StOk K W (ρ.set i (.d x)) (σ.set i (some v)) F H where
  cfg := S.cfg
  len := by simp [S.len]
  sl := fun j s e => by
    by_cases hj : j = i
    · subst hj
      by_cases hl : j < ρ.length
      · rw [List.getElem?_set_self hl] at e
        cases e
        exact ⟨some v, List.getElem?_set_self (S.len ▸ hl), v, rfl, q⟩
      · rw [List.getElem?_eq_none (by simpa using hl)] at e
        cases e
    · rw [List.getElem?_set_ne (Ne.symm hj)] at e ⊢
      exact S.sl j s e
  dis := fun j k a b c xs ys hjk h1 h2 h3 => by
    have hj : j ≠ i := fun z => by
      subst z
      have hl : j < ρ.length := by
        have := (List.getElem?_eq_some_iff.mp h1).1
        simpa using this
      rw [List.getElem?_set_self hl] at h1
      cases h1
    have hk : k ≠ i := fun z => by
      subst z
      have hl : k < ρ.length := by
        have := (List.getElem?_eq_some_iff.mp h2).1
        simpa using this
      rw [List.getElem?_set_self hl] at h2
      cases h2
    rw [List.getElem?_set_ne (Ne.symm hj)] at h1 h3
    rw [List.getElem?_set_ne (Ne.symm hk)] at h2 ⊢
    exact S.dis j k a b c xs ys hjk h1 h2 h3
/-- a slot forgotten -/
theorem StOk.forget (S : StOk K W ρ σ F H) (i : Nat) (v : Option V) : StOk K W (ρ.set i .no) (σ.set i v) F H where
  cfg := S.cfg
  len := by simp [S.len]
  sl := fun j s e => by
    by_cases hj : j = i
    · subst hj
      by_cases hl : j < ρ.length
      · rw [List.getElem?_set_self hl] at e
        cases e
        exact ⟨v, List.getElem?_set_self (S.len ▸ hl), trivial⟩
      · rw [List.getElem?_eq_none (by simpa using hl)] at e
        cases e
    · rw [List.getElem?_set_ne (Ne.symm hj)] at e ⊢
      exact S.sl j s e
  dis := fun j k a b c xs ys hjk h1 h2 h3 => by
    have hj : j ≠ i := fun z => by
      subst z
      have hl : j < ρ.length := by
        have := (List.getElem?_eq_some_iff.mp h1).1
        simpa using this
      rw [List.getElem?_set_self hl] at h1
      cases h1
    have hk : k ≠ i := fun z => by
      subst z
      have hl : k < ρ.length := by
        have := (List.getElem?_eq_some_iff.mp h2).1
        simpa using this
      rw [List.getElem?_set_self hl] at h2
      cases h2
    rw [List.getElem?_set_ne (Ne.symm hj)] at h1 h3
    rw [List.getElem?_set_ne (Ne.symm hk)] at h2 ⊢
    exact S.dis j k a b c xs ys hjk h1 h2 h3
/-- an address of one's own that no slot has -/
def Lone (ρ : Rho) (σ : St) (a : Addr) : Prop := ∀ (i : Nat) (b : Option Nat) (xs : List D), ρ[i]? = some (.o b xs) → σ[i]? ≠ some (some (.ref a))
theorem StOk.lone (S : StOk K W ρ σ F H) {p : Addr} (h : H p = none) : Lone ρ σ p := fun i b xs e z => by
  obtain ⟨a, h1, ⟨vs, h2, _⟩, _⟩ := S.own e
  rw [h1] at z
  have z2 : a = p := by injection z with z; injection z with z; injection z
  subst z2
  rw [h2] at h; cases h
/-- a fresh list of one's own stored -/
theorem StOk.setO (S : StOk K W ρ σ F H) (i : Nat) {a : Addr} {b : Option Nat} {xs : List D} (q : OwnAt K W F H b a xs) (l : Lone ρ σ a) : StOk K W (ρ.set i (.o b xs)) (σ.set i (some (.ref a))) F H where
  cfg := S.cfg
  len := by simp [S.len]
  sl := fun j s e => by
    by_cases hj : j = i
    · subst hj
      by_cases hl : j < ρ.length
      · rw [List.getElem?_set_self hl] at e
        cases e
        exact ⟨_, List.getElem?_set_self (S.len ▸ hl), a, rfl, q⟩
      · rw [List.getElem?_eq_none (by simpa using hl)] at e
        cases e
    · rw [List.getElem?_set_ne (Ne.symm hj)] at e ⊢
      exact S.sl j s e
  dis := fun j k p b1 c xs1 ys hjk h1 h2 h3 => by
    have lenJ : j < ρ.length := by simpa using (List.getElem?_eq_some_iff.mp h1).1
    have lenK : k < ρ.length := by simpa using (List.getElem?_eq_some_iff.mp h2).1
    by_cases hj : j = i
    · subst hj
      rw [List.getElem?_set_self (S.len ▸ lenJ)] at h3
      have e2 : a = p := by injection h3 with z; injection z with z; injection z
      subst e2
      rw [List.getElem?_set_ne hjk] at h2 ⊢
      exact l k c ys h2
    · rw [List.getElem?_set_ne (Ne.symm hj)] at h1 h3
      by_cases hk : k = i
      · subst hk
        rw [List.getElem?_set_self (S.len ▸ lenK)]
        intro z
        have e2 : a = p := by injection z with z; injection z with z; injection z
        subst e2
        exact l j b1 xs1 h1 h3
      · rw [List.getElem?_set_ne (Ne.symm hk)] at h2 ⊢
        exact S.dis j k p b1 c xs1 ys hjk h1 h2 h3
/-- the list of an own slot is changed -/
theorem StOk.write (S : StOk K W ρ σ F H) {i : Nat} {a : Addr} {b : Option Nat} {xs ys : List D} {ws : List V} (e : ρ[i]? = some (.o b xs)) (e2 : σ[i]? = some (some (.ref a))) (q : DqA K F ws ys) :
    StOk K W (ρ.set i (.o b ys)) σ F (upd H a (.lst ws)) := by
  obtain ⟨a', h1, ⟨vs, h2, h3⟩, h4, h5⟩ := S.own e
  rw [e2] at h1
  have ea : a = a' := by injection h1 with z; injection z with z; injection z
  subst ea
  have hi : i < ρ.length := (List.getElem?_eq_some_iff.mp e).1
  refine ⟨⟨fun p o h => ?_, S.cfg.ff, fun p o k1 k2 => ?_, S.cfg.n0, S.cfg.nf, fun p hp => ?_, tabs_write S.cfg.tb h2, S.cfg.nt⟩, by simp [S.len], fun j s ej => ?_, fun j k p b1 c xs1 ys1 hjk k1 k2 k3 => ?_⟩
  · rw [upd_ne (fun z => by rw [z, h4] at h; cases h)]; exact S.fh p o h
  · have : p ≠ a := fun z => by
      subst z
      cases b with
      | some k => exact k2 (List.mem_of_getElem? h5)
      | none =>
        have h5 : W.H0 p = none := h5.1
        rw [k1] at h5; cases h5
    rw [upd_ne this]; exact S.cfg.hh p o k1 k2
  · by_cases z : p = a
    · subst z; exact ⟨_, upd_same⟩
    · rw [upd_ne z]; exact S.cfg.bb p hp
  · by_cases hj : j = i
    · subst hj
      rw [List.getElem?_set_self hi] at ej
      cases ej
      exact ⟨_, e2, a, rfl, ⟨ws, upd_same, q⟩, h4, h5⟩
    · rw [List.getElem?_set_ne (Ne.symm hj)] at ej
      obtain ⟨v, g1, g2⟩ := S.sl j s ej
      refine ⟨v, g1, ?_⟩
      cases s with
      | no => trivial
      | d x => exact g2
      | o b2 zs =>
        obtain ⟨p, rfl, ⟨us, g3, g4⟩, g5, g6⟩ := g2
        have : p ≠ a := fun z => by
          subst z
          exact S.dis i j p b b2 xs zs (Ne.symm hj) e ej e2 g1
        exact ⟨p, rfl, ⟨us, by rw [upd_ne this]; exact g3, g4⟩, g5, g6⟩
  · have conv : ∀ {n : Nat} {bb : Option Nat} {zs : List D}, (ρ.set i (.o b ys))[n]? = some (.o bb zs) → ∃ bb' zs', ρ[n]? = some (.o bb' zs') := fun {n bb zs} h => by
      by_cases hn : n = i
      · subst hn; exact ⟨_, _, e⟩
      · rw [List.getElem?_set_ne (Ne.symm hn)] at h; exact ⟨_, _, h⟩
    obtain ⟨_, _, k1'⟩ := conv k1
    obtain ⟨_, _, k2'⟩ := conv k2
    exact S.dis j k p _ _ _ _ hjk k1' k2' k3
/-- a list of one's own becomes data -/
theorem Cfg.freeze (S : Cfg K W F H) {a : Addr} {ws : List V} (e : H a = some (.lst ws)) (n : W.H0 a = none) : Cfg K W (upd F a (.lst ws)) H := by
  refine ⟨fun p o h => ?_, fun p o h => ?_, S.hh, S.n0, fun p h1 h2 => ?_, S.bb, S.tb, fun p ps z => ?_⟩
  · by_cases z : p = a
    · subst z; rw [upd_same] at h; cases h; exact e
    · rw [upd_ne z] at h; exact S.fh p o h
  · by_cases z : p = a
    · subst z
      have q := S.fh p o (S.ff p o h)
      rw [e] at q
      rw [upd_same]
      exact q
    · rw [upd_ne z]; exact S.ff p o h
  · have : p ≠ a := fun z => h1 (z ▸ n)
    rw [upd_ne this]; exact S.nf p h1 h2
  · by_cases y : p = a
    · rw [y, upd_same] at z; cases z
    · rw [upd_ne y] at z; exact S.nt p ps z
theorem same_freeze {a : Addr} {ws : List V} (h : Same F H) (e : H a = some (.lst ws)) : Same F (upd F a (.lst ws)) := fun p o h' => by
  by_cases z : p = a
  · subst z
    have q := h p o h'
    rw [e] at q
    rw [upd_same]; exact q
  · rw [upd_ne z]; exact h'
theorem StOk.freezeA (S : StOk K W ρ σ F H) {a : Addr} {ws : List V} (e : H a = some (.lst ws)) (n : W.H0 a = none) (l : Lone ρ σ a) : StOk K W ρ σ (upd F a (.lst ws)) H where
  cfg := S.cfg.freeze e n
  len := S.len
  sl := fun j s ej => by
    obtain ⟨v, g1, g2⟩ := S.sl j s ej
    refine ⟨v, g1, ?_⟩
    cases s with
    | no => trivial
    | d x => obtain ⟨u, r, q⟩ := g2; exact ⟨u, r, q.m (same_freeze S.fh e)⟩
    | o b zs =>
      obtain ⟨p, rfl, ⟨us, g3, g4⟩, g5, g6⟩ := g2
      have : p ≠ a := fun z => by subst z; exact l j b zs ej g1
      exact ⟨p, rfl, ⟨us, g3, g4.m (same_freeze S.fh e)⟩, by rw [upd_ne this]; exact g5, g6⟩
  dis := S.dis
theorem StOk.freeze (S : StOk K W ρ σ F H) {i : Nat} {a : Addr} {xs : List D} (e : ρ[i]? = some (.o none xs)) (e2 : σ[i]? = some (some (.ref a))) :
    ∃ F', Same F F' ∧ StOk K W (ρ.set i (.d (.lst xs))) σ F' H ∧ Dq K F' (.ref a) (.lst xs) := by
  obtain ⟨a', h1, ⟨vs, h2, h3⟩, h4, h5⟩ := S.own e
  rw [e2] at h1
  have ea : a = a' := by injection h1 with z; injection z with z; injection z
  subst ea
  have h5 : W.H0 a = none := h5.1
  have hi : i < ρ.length := (List.getElem?_eq_some_iff.mp e).1
  -- first forget the slot
  have S1 : StOk K W (ρ.set i .no) σ F H := by
    have := S.forget i (some (.ref a))
    have e3 : σ.set i (some (.ref a)) = σ := by
      obtain ⟨hl, he⟩ := List.getElem?_eq_some_iff.mp e2
      rw [← he]; exact List.set_getElem_self hl
    rw [e3] at this; exact this
  have l : Lone (ρ.set i .no) σ a := fun j b zs ej g => by
    by_cases hj : j = i
    · subst hj
      rw [List.getElem?_set_self hi] at ej; cases ej
    · rw [List.getElem?_set_ne (Ne.symm hj)] at ej
      exact S.dis i j a none b xs zs (Ne.symm hj) e ej e2 g
  have S2 := S1.freezeA h2 h5 l
  have sm := same_freeze S.fh h2
  have dq : Dq K (upd F a (.lst vs)) (.ref a) (.lst xs) := .lst upd_same (h3.m sm)
  refine ⟨_, sm, ?_, dq⟩
  have S3 := S2.setD i dq
  have e3 : σ.set i (some (.ref a)) = σ := by
    obtain ⟨hl, he⟩ := List.getElem?_eq_some_iff.mp e2
    rw [← he]; exact List.set_getElem_self hl
  rw [e3, List.set_set] at S3
  exact S3
/-- a thing laid aside, to be found again as it was -/
def Wd.prot (W : Wd) (D : Addr) (o : HO) : Wd := ⟨upd W.H0 D o, W.F0, W.B⟩
theorem StOk.prot (S : StOk K W ρ σ F H) {D : Addr} {o : HO} (e : H D = some o) (f : F D = none) (f0 : W.F0 D = none) (n0 : W.H0 D = none) (l : Lone ρ σ D) (hot : ∀ ps, o ≠ .tbl ps := by intro _ z; cases z) : StOk K (W.prot D o) ρ σ F H where
  cfg := {
    fh := S.cfg.fh
    ff := S.cfg.ff
    hh := fun a o' h1 h2 => by
      by_cases z : a = D
      · subst z
        have h1 : upd W.H0 a o a = some o' := h1
        rw [upd_same] at h1; cases h1; exact e
      · have h1 : upd W.H0 D o a = some o' := h1
        rw [upd_ne z] at h1; exact S.cfg.hh a o' h1 h2
    n0 := fun a ps h1 => by
      by_cases z : a = D
      · subst z
        have h1 : upd W.H0 a o a = some (.tbl ps) := h1
        rw [upd_same] at h1; exact hot ps (Option.some.inj h1)
      · have h1 : upd W.H0 D o a = some (.tbl ps) := h1
        rw [upd_ne z] at h1; exact S.cfg.n0 a ps h1
    tb := S.cfg.tb
    nt := S.cfg.nt
    nf := fun a h1 h2 => by
      by_cases z : a = D
      · subst z; exact f
      · have h1 : upd W.H0 D o a ≠ none := h1
        rw [upd_ne z] at h1; exact S.cfg.nf a h1 h2
    bb := S.cfg.bb }
  len := S.len
  sl := fun j s ej => by
    obtain ⟨v, g1, g2⟩ := S.sl j s ej
    refine ⟨v, g1, ?_⟩
    cases s with
    | no => trivial
    | d x => exact g2
    | o b zs =>
      obtain ⟨p, rfl, g3, g5, g6⟩ := g2
      refine ⟨p, rfl, g3, g5, ?_⟩
      cases b with
      | some k => exact g6
      | none =>
        have : p ≠ D := fun z => by subst z; exact l j none zs ej g1
        refine ⟨?_, g6.2⟩
        show upd W.H0 D o p = none
        rw [upd_ne this]; exact g6.1
  dis := S.dis
theorem StOk.unprot {D : Addr} {o : HO} (n0 : W.H0 D = none) (hB : D ∉ W.B) (S : StOk K (W.prot D o) ρ σ F H) (ho : ∀ ps, o ≠ .tbl ps := by intro _ z; cases z) : StOk K W ρ σ F H ∧ H D = some o ∧ Lone ρ σ D ∧ F D = F D := by
  have same : H D = some o := S.cfg.hh D o (upd_same) hB
  have l : Lone ρ σ D := fun j b zs ej g => by
    obtain ⟨p, h1, _, _, h5⟩ := S.own ej
    rw [g] at h1
    have ea : D = p := by injection h1 with z; injection z with z; injection z
    subst ea
    cases b with
    | some k => exact hB (List.mem_of_getElem? h5)
    | none =>
      have h5 : upd W.H0 D o D = none := h5.1
      rw [upd_same] at h5; cases h5
  refine ⟨⟨⟨S.cfg.fh, S.cfg.ff, fun a o' h1 h2 => ?_, fun a ps h1 => ?_, fun a h1 h2 => ?_, S.cfg.bb, S.cfg.tb, S.cfg.nt⟩, S.len, fun j s ej => ?_, S.dis⟩, same, l, rfl⟩
  · have : a ≠ D := fun z => by rw [z, n0] at h1; cases h1
    exact S.cfg.hh a o' (show upd W.H0 D o a = some o' by rw [upd_ne this]; exact h1) h2
  · have : a ≠ D := fun z => by rw [z, n0] at h1; cases h1
    exact S.cfg.n0 a ps (show upd W.H0 D o a = some (.tbl ps) by rw [upd_ne this]; exact h1)
  · refine S.cfg.nf a ?_ h2
    have : a ≠ D := fun z => by rw [z] at h1; exact h1 n0
    show upd W.H0 D o a ≠ none
    rw [upd_ne this]; exact h1
  · obtain ⟨v, g1, g2⟩ := S.sl j s ej
    refine ⟨v, g1, ?_⟩
    cases s with
    | no => trivial
    | d x => exact g2
    | o b zs =>
      obtain ⟨p, rfl, g3, g5, g6⟩ := g2
      refine ⟨p, rfl, g3, g5, ?_⟩
      cases b with
      | some k => exact g6
      | none =>
        have : p ≠ D := fun z => by subst z; exact l j none zs ej g1
        have g7 : upd W.H0 D o p = none := g6.1
        rw [upd_ne this] at g7
        exact ⟨g7, g6.2⟩
theorem StOk.notB (S : StOk K W ρ σ F H) {p : Addr} (h : H p = none) : p ∉ W.B := fun z => S.cfg.bn z h
/-- the protected thing is not frozen -/
theorem StOk.protF {D : Addr} {o : HO} (f0 : W.F0 D = none) (S : StOk K (W.prot D o) ρ σ F H) : F D = none :=
  S.cfg.nf D (show upd W.H0 D o D ≠ none by rw [upd_same]; exact fun z => nomatch z) f0
end
end DL
end
section
set_option Elab.async false
set_option linter.all false
set_option maxRecDepth 100000
/-! DL2: readings as functions of values; expressions. -/
namespace DL
open PySem PySem.Spec L2
open PyProof.Rows hiding St
variable [Tb0]

/-- an exception: its class by name, one field -/
inductive Er where
  | pl (C : Str)
  | fl (C f : Str) (x : D)
def ErOk (K : PySem.W.Frag) (F H : Hp) : Er → Value → Option Addr → Prop
  | .pl C, cls, dd => cls = .ref (He.ga K C) ∧ dd = none
  | .fl C f x, cls, dd => cls = .ref (He.ga K C) ∧ ∃ d v, dd = some d ∧ H d = some (.xd [(f, v)]) ∧ Dq K F v x

/-- a reading: what comes of the slots -/
abbrev M (α : Type) := Rho → Option (Except Er α × Rho)
def pur {α : Type} (a : α) : M α := fun ρ => some (.ok a, ρ)
def bnd {α β : Type} (m : M α) (k : α → M β) : M β := fun ρ => match m ρ with
  | some (.ok a, ρ1) => k a ρ1
  | some (.error e, ρ1) => some (.error e, ρ1)
  | none => none
def lft {α : Type} (o : Option α) : M α := fun ρ => match o with
  | some a => some (.ok a, ρ)
  | none => none
/-- a value at hand: data, or what a slot holds -/
inductive Hd where
  | d (x : D)
  | s (i : Nat)
def HdOk (K : PySem.W.Frag) (F : Hp) (σ : St) : Hd → V → Prop
  | .d x, v => Dq K F v x
  | .s i, v => σ[i]? = some (some v)
def HdsOk (K : PySem.W.Frag) (F : Hp) (σ : St) : List Hd → List V → Prop := Paired (HdOk K F σ)
/-- read it now -/
def res : Hd → M D
  | .d x => pur x
  | .s i => fun ρ => match ρ[i]? with
    | some (.d x) => some (.ok x, ρ)
    | some (.o _ xs) => some (.ok (.lst xs), ρ)
    | _ => none
/-- have it as data for good -/
def cl : Hd → M D
  | .d x => pur x
  | .s i => fun ρ => match ρ[i]? with
    | some (.d x) => some (.ok x, ρ)
    | some (.o none xs) => some (.ok (.lst xs), ρ.set i (.d (.lst xs)))
    | _ => none
/-- v is the data now -/
def Rq (K : PySem.W.Frag) (F H : Hp) (v : V) (d : D) : Prop := Dq K F v d ∨ ∃ a vs ds, v = .ref a ∧ d = .lst ds ∧ H a = some (.lst vs) ∧ DqA K F vs ds
def RqA (K : PySem.W.Frag) (F H : Hp) : List V → List D → Prop := Paired (Rq K F H)

section
variable {K : PySem.W.Frag} {Wx : WX} {W : Wd} {ρ ρ' : Rho} {σ : St} {F F' H H' : Hp} {α β : Type}

def Tl (K : PySem.W.Frag) (Wx : WX) (W : Wd) (σ : St) (κ : Rho → α → Hp → Hp → Prop) (F : Hp) (ρ' : Rho) : Except Er α → Prop
  | .ok a => ∀ F' H', StOk K W ρ' σ F' H' → Same F F' → κ ρ' a F' H'
  | .error e => ∀ F' H' cls dd, StOk K W ρ' σ F' H' → Same F F' → ErOk K F' H' e cls dd → Wx cls dd σ H'
def RunAt (K : PySem.W.Frag) (Wx : WX) (m : M α) (W : Wd) (ρ : Rho) (σ : St) (F : Hp) (κ : Rho → α → Hp → Hp → Prop) : Prop :=
  ∃ r ρ', m ρ = some (r, ρ') ∧ Tl K Wx W σ κ F ρ' r
theorem Tl.sm {κ : Rho → α → Hp → Hp → Prop} {r : Except Er α} (h : Tl K Wx W σ κ F ρ' r) (s : Same F F') : Tl K Wx W σ κ F' ρ' r := by
  cases r with
  | ok a => exact fun F' H' S sm => h F' H' S (s.trans sm)
  | error e => exact fun F' H' c d S sm => h F' H' c d S (s.trans sm)
theorem RunAt.imp {m : M α} {κ κ' : Rho → α → Hp → Hp → Prop} (h : RunAt K Wx m W ρ σ F κ) (g : ∀ ρ' a F' H', StOk K W ρ' σ F' H' → Same F F' → κ ρ' a F' H' → κ' ρ' a F' H') : RunAt K Wx m W ρ σ F κ' := by
  obtain ⟨r, ρ', e, q⟩ := h
  refine ⟨r, ρ', e, ?_⟩
  cases r with
  | ok a => exact fun F' H' S sm => g _ _ _ _ S sm (q F' H' S sm)
  | error e => exact q
theorem RunAt.sm {m : M α} {κ : Rho → α → Hp → Hp → Prop} (h : RunAt K Wx m W ρ σ F κ) (s : Same F F') : RunAt K Wx m W ρ σ F' κ := by
  obtain ⟨r, ρ', e, q⟩ := h
  refine ⟨r, ρ', e, ?_⟩
  cases r with
  | ok a => exact fun F' H' S sm => q F' H' S (s.trans sm)
  | error e => exact fun F' H' c d S sm => q F' H' c d S (s.trans sm)
theorem RunAt.bind {m : M α} {k : α → M β} {κ : Rho → β → Hp → Hp → Prop} (h : RunAt K Wx (bnd m k) W ρ σ F κ) :
    RunAt K Wx m W ρ σ F fun ρ1 a F1 _ => RunAt K Wx (k a) W ρ1 σ F1 κ := by
  obtain ⟨r, ρ', e, q⟩ := h
  unfold bnd at e
  cases hm : m ρ with
  | none => rw [hm] at e; cases e
  | some z =>
    obtain ⟨rm, ρm⟩ := z
    rw [hm] at e
    cases rm with
    | ok a =>
      refine ⟨.ok a, ρm, hm, fun F1 H1 S1 sm1 => ⟨r, ρ', e, ?_⟩⟩
      cases r with
      | ok b => exact fun F' H' S sm => q F' H' S (sm1.trans sm)
      | error e => exact fun F' H' c d S sm => q F' H' c d S (sm1.trans sm)
    | error x =>
      have e' : some (Except.error x, ρm) = some (r, ρ') := e
      cases e'
      exact ⟨.error x, _, hm, q⟩
theorem RunAt.pur {a : α} {κ : Rho → α → Hp → Hp → Prop} (h : RunAt K Wx (pur a) W ρ σ F κ) (S : StOk K W ρ σ F' H') (sm : Same F F') : κ ρ a F' H' := by
  obtain ⟨r, ρ', e, q⟩ := h
  cases e
  exact q F' H' S sm
theorem RunAt.lft {o : Option α} {k : α → M β} {κ : Rho → β → Hp → Hp → Prop} (h : RunAt K Wx (bnd (lft o) k) W ρ σ F κ) : ∃ z, o = some z ∧ RunAt K Wx (k z) W ρ σ F κ := by
  obtain ⟨r, ρ', e, q⟩ := h
  cases o with
  | none => cases e
  | some z => exact ⟨z, rfl, r, ρ', e, q⟩
theorem RunAt.lft0 {o : Option α} {κ : Rho → α → Hp → Hp → Prop} (h : RunAt K Wx (DL.lft o) W ρ σ F κ) : ∃ z, o = some z ∧ RunAt K Wx (DL.pur z) W ρ σ F κ := by
  obtain ⟨r, ρ', e, q⟩ := h
  cases o with
  | none => cases e
  | some z => exact ⟨z, rfl, r, ρ', e, q⟩
theorem RunAt.res {h : Hd} {v : V} {k : D → M β} {κ : Rho → β → Hp → Hp → Prop} (R : RunAt K Wx (bnd (res h) k) W ρ σ F κ) (S : StOk K W ρ σ F H) (hv : HdOk K F σ h v) : ∃ x, Rq K F H v x ∧ RunAt K Wx (k x) W ρ σ F κ := by
  obtain ⟨r, ρ', e, q⟩ := R
  cases h with
  | d x => exact ⟨x, .inl hv, r, ρ', e, q⟩
  | s i =>
    unfold bnd DL.res at e
    dsimp only at e
    cases hi : ρ[i]? with
    | none => rw [hi] at e; cases e
    | some s =>
      rw [hi] at e
      cases s with
      | no => cases e
      | d x =>
        obtain ⟨u, h1, h2⟩ := S.data hi
        have e1 : u = v := by
          have hv : σ[i]? = some (some v) := hv
          rw [h1] at hv; injection hv with z; injection z
        subst e1
        exact ⟨x, .inl h2, r, ρ', e, q⟩
      | o b xs =>
        obtain ⟨a, h1, ⟨vs, h2, h3⟩, _⟩ := S.own hi
        have e1 : V.ref a = v := by
          have hv : σ[i]? = some (some v) := hv
          rw [h1] at hv; injection hv with z; injection z
        subst e1
        exact ⟨.lst xs, .inr ⟨a, vs, xs, rfl, rfl, h2, h3⟩, r, ρ', e, q⟩
theorem RunAt.cl {h : Hd} {v : V} {k : D → M β} {κ : Rho → β → Hp → Hp → Prop} (R : RunAt K Wx (bnd (cl h) k) W ρ σ F κ) (S : StOk K W ρ σ F H) (hv : HdOk K F σ h v) :
    ∃ x ρ1 F1, StOk K W ρ1 σ F1 H ∧ Same F F1 ∧ Dq K F1 v x ∧ RunAt K Wx (k x) W ρ1 σ F1 κ := by
  obtain ⟨r, ρ', e, q⟩ := R
  cases h with
  | d x => exact ⟨x, ρ, F, S, Same.refl _, hv, r, ρ', e, q⟩
  | s i =>
    unfold bnd DL.cl at e
    dsimp only at e
    cases hi : ρ[i]? with
    | none => rw [hi] at e; cases e
    | some s =>
      rw [hi] at e
      cases s with
      | no => cases e
      | d x =>
        obtain ⟨u, h1, h2⟩ := S.data hi
        have e1 : u = v := by
          have hv : σ[i]? = some (some v) := hv
          rw [h1] at hv; injection hv with z; injection z
        subst e1
        exact ⟨x, ρ, F, S, Same.refl _, h2, r, ρ', e, q⟩
      | o b xs =>
        cases b with
        | some k => cases e
        | none =>
          obtain ⟨a, h1, _⟩ := S.own hi
          have e1 : V.ref a = v := by
            have hv : σ[i]? = some (some v) := hv
            rw [h1] at hv; injection hv with z; injection z
          subst e1
          obtain ⟨F1, s1, S1, d1⟩ := S.freeze hi h1
          exact ⟨.lst xs, _, F1, S1, s1, d1, r, ρ', e, q.sm s1⟩
theorem HdOk.sm {h : Hd} {v : V} (s : Same F F') (q : HdOk K F σ h v) : HdOk K F' σ h v := by
  cases h with
  | d x => exact Dq.m s q
  | s i => exact q
theorem HdsOk.sm {hs : List Hd} {vs : List V} (s : Same F F') (q : HdsOk K F σ hs vs) : HdsOk K F' σ hs vs := Paired.mapP q fun _ _ r => r.sm s

/-! ### the readings -/
def tE (K : PySem.W.Frag) (Wx : WX) (f : M Hd) : TE := fun σ H Q => ∃ W F ρ, StOk K W ρ σ F H ∧ RunAt K Wx f W ρ σ F fun _ h F' H' => ∀ v, HdOk K F' σ h v → Q v H'
def tT (K : PySem.W.Frag) (Wx : WX) (f : M Bool) : TT := fun σ H Q => ∃ W F ρ, StOk K W ρ σ F H ∧ RunAt K Wx f W ρ σ F fun _ b _ H' => Q b H'
def tA (K : PySem.W.Frag) (Wx : WX) (f : M (List Hd)) : TA := fun σ H Q => ∃ W F ρ, StOk K W ρ σ F H ∧ RunAt K Wx f W ρ σ F fun _ hs F' H' => ∀ vs, HdsOk K F' σ hs vs → Q vs H'
/-- a fresh list of one's own -/
def tO (K : PySem.W.Frag) (Wx : WX) (f : M (List D)) : TE := fun σ H Q => ∃ W F ρ, StOk K W ρ σ F H ∧ RunAt K Wx f W ρ σ F fun ρ' xs F' H' => ∀ a, OwnAt K W F' H' none a xs → Lone ρ' σ a → Q (.ref a) H'
end

abbrev JE (X : Cx) (Wx : WX) (e : Expr) (f : M Hd) : Prop := PE X e (tE X.K Wx f)
abbrev JT (X : Cx) (Wx : WX) (e : Expr) (f : M Bool) : Prop := PT X e (tT X.K Wx f)
abbrev JW (X : Cx) (Wx : WX) (e : Expr) (f : M Bool) : Prop := PW X e (tT X.K Wx f)
abbrev JA (X : Cx) (Wx : WX) (es : List Expr) (f : M (List Hd)) : Prop := PA X es (tA X.K Wx f)
abbrev JO (X : Cx) (Wx : WX) (e : Expr) (f : M (List D)) : Prop := PE X e (tO X.K Wx f)

section
variable {X : Cx} {Wx : WX} {e a b c : Expr} {es : List Expr} {pos : Pos}
theorem PE.imp {t t' : TE} (h : PE X e t) (g : ∀ σ H Q, t' σ H Q → t σ H Q) : PE X e t' := ⟨fun pins s σ H Q I hw => h.run pins s σ H Q I (g _ _ _ hw)⟩
theorem PT.imp {t t' : TT} (h : PT X e t) (g : ∀ σ H Q, t' σ H Q → t σ H Q) : PT X e t' := ⟨fun pins s σ H Q I hw => h.run pins s σ H Q I (g _ _ _ hw)⟩
theorem PA.imp {t t' : TA} (h : PA X es t) (g : ∀ σ H Q, t' σ H Q → t σ H Q) : PA X es t' := ⟨fun pos pins s σ H Q I hw => h.run pos pins s σ H Q I (g _ _ _ hw)⟩

/-! ### names and constants -/
def dVar (i : Nat) : M Hd := fun ρ => match ρ[i]? with
  | some (.d x) => some (.ok (.d x), ρ)
  | some (.o _ _) => some (.ok (.s i), ρ)
  | _ => none
def dK (x : D) : M Hd := pur (.d x)
theorem je_var (i : Nat) {x : Str} (hN : X.N[i]? = some x := by rfl) (hv : Vis X.env.scope x := by first | exact Or.inl rfl | exact Or.inr (Or.inl rfl) | exact Or.inr (Or.inr rfl)) (hd : (x == ("__debug__" : Str)) = false := by decide)
    (hcd : (x == ("__classdict__" : Str)) = false := by decide) : JE X Wx (.Name x pos) (dVar i) := PE.imp (pe_var hN hv hd hcd) fun σ H Q ⟨W, F, ρ, S, r, ρ', e, q⟩ => by
  unfold dVar at e
  cases hi : ρ[i]? with
  | none => rw [hi] at e; cases e
  | some s =>
    rw [hi] at e
    cases s with
    | no => cases e
    | d x =>
      cases e
      obtain ⟨u, h1, h2⟩ := S.data hi
      exact ⟨u, h1, q F H S (Same.refl _) u h2⟩
    | o b xs =>
      cases e
      obtain ⟨u, h1, h2⟩ := S.own hi
      exact ⟨_, h1, q F H S (Same.refl _) _ h1⟩
theorem tE_const {v : V} {x : D} {K : PySem.W.Frag} (r : ∀ F, Dq K F v x) {σ : St} {H : Hp} {Q : VK} (h : tE K Wx (dK x) σ H Q) : Q v H := by
  obtain ⟨W, F, ρ, S, R⟩ := h
  exact R.pur S (Same.refl _) v (r F)
theorem je_int {i j} : JE X Wx (.Constant (.int i) j pos) (dK (.int i)) := PE.imp pe_int fun _ _ _ h => tE_const (fun _ => .int i) h
theorem je_bl {i j} : JE X Wx (.Constant (.bool i) j pos) (dK (.bl i)) := PE.imp pe_bl fun _ _ _ h => tE_const (fun _ => .bl i) h
theorem je_non {j} : JE X Wx (.Constant .none j pos) (dK .non) := PE.imp pe_non fun _ _ _ h => tE_const (fun _ => .non) h
theorem je_str {x j} : JE X Wx (.Constant (.str x) j pos) (dK (.str x)) := PE.imp pe_str fun _ _ _ h => tE_const (fun _ => .str x) h
/-- a module's constant -/
theorem je_glob {x : Str} {v : V} {u : Value} {d : D} (hg : Gl X x) (hm : X.mg x = some u) (r : RelV v u) (q : ∀ F, Dq X.K F v d) (hd : (x == ("__debug__" : Str)) = false := by decide) : JE X Wx (.Name x pos) (dK d) :=
  PE.imp (pe_glob hg hm r hd) fun _ _ _ h => tE_const q h

/-! ### argument lists -/
def dNil : M (List Hd) := pur []
def dCons (f : M Hd) (g : M (List Hd)) : M (List Hd) := bnd f fun h => bnd g fun hs => pur (h :: hs)
theorem ja_nil : JA X Wx [] dNil := PA.imp pa_nil fun σ H Q ⟨W, F, ρ, S, R⟩ => R.pur S (Same.refl _) [] .nil
theorem ja_cons {f : M Hd} {g : M (List Hd)} (ha : JE X Wx e f) (hr : JA X Wx es g) (hs : starEach (e :: es) X.env = (false, eval e X.env) :: starEach es X.env := by rfl) : JA X Wx (e :: es) (dCons f g) :=
  PA.imp (pa_cons ha hr hs) fun σ H Q ⟨W, F, ρ, S, R⟩ => ⟨W, F, ρ, S, R.bind.imp fun ρ1 h F1 H1 S1 s1 R1 v hv => ⟨W, F1, ρ1, S1, R1.bind.imp fun ρ2 hs F2 H2 S2 s2 R2 vs hvs =>
    R2.pur S2 (Same.refl _) (v :: vs) (.cons (hv.sm s2) hvs)⟩⟩

/-! ### two-place operations -/
def OpD (X : Cx) (f : Value → Value → Sem Value) (o : D → D → Option D) : Prop :=
  ∃ r : R2, OpR X f r ∧ ∀ (F H : Hp) (v u : V) (x y z : D) (Q : VK), Same F H → Rq X.K F H v x → Rq X.K F H u y → o x y = some z → (∀ w F' H', Alloc F H F' H' → Dq X.K F' w z → Q w H') → r v u H Q
def dOp (o : D → D → Option D) (f g : M Hd) : M Hd := bnd f fun h => bnd g fun k => bnd (res h) fun x => bnd (res k) fun y => bnd (lft (o x y)) fun z => pur (.d z)
theorem tE_op {K : PySem.W.Frag} {r : R2} {o : D → D → Option D} (hr : ∀ (F H : Hp) (v u : V) (x y z : D) (Q : VK), Same F H → Rq K F H v x → Rq K F H u y → o x y = some z → (∀ w F' H', Alloc F H F' H' → Dq K F' w z → Q w H') → r v u H Q)
    {f g : M Hd} {σ : St} {H : Hp} {Q : VK} (h : tE K Wx (dOp o f g) σ H Q) : tOp r (tE K Wx f) (tE K Wx g) σ H Q := by
  obtain ⟨W, F, ρ, S, R⟩ := h
  refine ⟨W, F, ρ, S, R.bind.imp fun ρ1 h F1 H1 S1 s1 R1 v hv => ⟨W, F1, ρ1, S1, R1.bind.imp fun ρ2 k F2 H2 S2 s2 R2 u hu => ?_⟩⟩
  obtain ⟨x, qx, R3⟩ := R2.res S2 (hv.sm s2)
  obtain ⟨y, qy, R4⟩ := R3.res S2 hu
  obtain ⟨z, ez, R5⟩ := R4.lft
  exact hr F2 H2 v u x y z Q S2.fh qx qy ez fun w F' H' al qw => R5.pur (S2.alloc al) al.ff w qw
theorem je_op {op : Operator} {o : D → D → Option D} {f g : M Hd} (ho : OpD X (binaryOp op) o) (ha : JE X Wx a f) (hb : JE X Wx b g) : JE X Wx (.BinOp a op b pos) (dOp o f g) := by
  obtain ⟨r, hr, hq⟩ := ho
  exact PE.imp (pe_op hr ha hb) fun σ H Q h => tE_op hq h
theorem je_cmp {op : CmpOp} {o : D → D → Option D} {f g : M Hd} (ho : OpD X (compareOp op) o) (ha : JE X Wx a f) (hb : JE X Wx b g) (hm : behindInMarks op b = false := by first | rfl | exact nomark _) : JE X Wx (.Compare a [op] [b] pos) (dOp o f g) := by
  obtain ⟨r, hr, hq⟩ := ho
  exact PE.imp (pe_cmpR hr ha hb hm) fun σ H Q h => tE_op hq h
/-- a comparison, asked twice over: a op b op' c -/
def dChain (o o' : D → D → Option D) (f g h : M Hd) : M Hd := bnd f fun ha => bnd g fun hb => bnd (res ha) fun x => bnd (res hb) fun y => bnd (lft (o x y)) fun z => match z with
  | .bl true => bnd h fun hc => bnd (res hb) fun y => bnd (res hc) fun u => bnd (lft (o' y u)) fun w => pur (.d w)
  | .bl false => pur (.d (.bl false))
  | _ => fun _ => none
theorem je_chain {op op' : CmpOp} {o o' : D → D → Option D} {f g h : M Hd} (ho : OpD X (compareOp op) o) (ho' : OpD X (compareOp op') o') (ha : JE X Wx a f) (hb : JE X Wx b g) (hc : JE X Wx c h) (hm : lastMarks [op, op'] [b, c] = false := by rfl) : JE X Wx (.Compare a [op, op'] [b, c] pos) (dChain o o' f g h) := by
  obtain ⟨r, hr, hq⟩ := ho
  obtain ⟨r', hr', hq'⟩ := ho'
  refine PE.imp (pe_chain hr hr' ha hb hc hm) fun σ H Q ⟨W, F, ρ, S, R⟩ => ?_
  refine ⟨W, F, ρ, S, R.bind.imp fun ρ1 h F1 H1 S1 s1 R1 v hv => ⟨W, F1, ρ1, S1, R1.bind.imp fun ρ2 k F2 H2 S2 s2 R2 u hu => ?_⟩⟩
  obtain ⟨x, qx, R3⟩ := R2.res S2 (hv.sm s2)
  obtain ⟨y, qy, R4⟩ := R3.res S2 hu
  obtain ⟨z, ez, R5⟩ := R4.lft
  refine hq F2 H2 v u x y z _ S2.fh qx qy ez fun w F' H' al qw => ?_
  have S3 := S2.alloc al
  cases z with
  | bl t =>
    cases qw
    cases t with
    | true =>
      refine ⟨true, rfl, iteT ⟨W, F', ρ2, S3, (R5.sm al.ff).bind.imp fun ρ4 hc F4 H4 S4 s4 R6 w hw => ?_⟩⟩
      obtain ⟨y', qy', R7⟩ := R6.res S4 (hu.sm (al.ff.trans s4))
      obtain ⟨u', qu', R8⟩ := R7.res S4 hw
      obtain ⟨z', ez', R9⟩ := R8.lft
      exact hq' F4 H4 _ _ y' u' z' Q S4.fh qy' qu' ez' fun w F' H' al qw => R9.pur (S4.alloc al) al.ff w qw
    | false => exact ⟨false, rfl, iteF (R5.pur S3 al.ff _ (.bl false))⟩
  | non => obtain ⟨_, _, e, _⟩ := R5; cases e
  | int _ => obtain ⟨_, _, e, _⟩ := R5; cases e
  | str _ => obtain ⟨_, _, e, _⟩ := R5; cases e
  | tup _ => obtain ⟨_, _, e, _⟩ := R5; cases e
  | lst _ => obtain ⟨_, _, e, _⟩ := R5; cases e
  | glo _ => obtain ⟨_, _, e, _⟩ := R5; cases e
  | scr _ => obtain ⟨_, _, e, _⟩ := R5; cases e
  | emp => obtain ⟨_, _, e, _⟩ := R5; cases e
/-- one-place operations -/
def dUn (o : D → Option D) (f : M Hd) : M Hd := bnd f fun h => bnd (res h) fun x => bnd (lft (o x)) fun z => pur (.d z)
def UnD (X : Cx) (f : Value → Sem Value) (o : D → Option D) : Prop :=
  ∃ r : V → Hp → VK → Prop, UnR X f r ∧ ∀ (F H : Hp) (v : V) (x z : D) (Q : VK), Same F H → Rq X.K F H v x → o x = some z → (∀ w F' H', Alloc F H F' H' → Dq X.K F' w z → Q w H') → r v H Q
theorem je_un {op : UnaryOp} {o : D → Option D} {f : M Hd} (ho : UnD X (unaryOp op) o) (ha : JE X Wx a f) : JE X Wx (.UnaryOp op a pos) (dUn o f) := by
  obtain ⟨r, hr, hq⟩ := ho
  refine PE.imp (pe_un hr ha) fun σ H Q ⟨W, F, ρ, S, R⟩ => ?_
  refine ⟨W, F, ρ, S, R.bind.imp fun ρ1 h F1 H1 S1 s1 R1 v hv => ?_⟩
  obtain ⟨x, qx, R3⟩ := R1.res S1 hv
  obtain ⟨z, ez, R5⟩ := R3.lft
  exact hq F1 H1 v x z Q S1.fh qx ez fun w F' H' al qw => R5.pur (S1.alloc al) al.ff w qw
end
end DL
end
section
set_option Elab.async false
set_option linter.all false
set_option maxRecDepth 100000
/-! DL3: tests, displays, calls of built-ins, subscripts, slices. -/
namespace DL
open PySem PySem.Spec L2
open PyProof.Rows hiding St
variable [Tb0]

section
variable {K : PySem.W.Frag} {Wx : WX} {W : Wd} {ρ ρ' : Rho} {σ : St} {F F' H H' : Hp} {α β : Type}
/-- read them now, have them as data -/
def resA : List Hd → M (List D)
  | [] => pur []
  | h :: hs => bnd (res h) fun x => bnd (resA hs) fun xs => pur (x :: xs)
def clA : List Hd → M (List D)
  | [] => pur []
  | h :: hs => bnd (cl h) fun x => bnd (clA hs) fun xs => pur (x :: xs)
theorem bnd_assoc {γ : Type} (m : M α) (k : α → M β) (l : β → M γ) : bnd (bnd m k) l = bnd m fun a => bnd (k a) l := by
  funext ρ
  unfold bnd
  cases m ρ with
  | none => rfl
  | some z =>
    obtain ⟨r, ρ1⟩ := z
    cases r <;> rfl
theorem bnd_pur {α β : Type} (a : α) (k : α → M β) : bnd (pur a) k = k a := rfl
theorem RunAt.resA : ∀ {hs : List Hd} {vs : List V} {k : List D → M β} {κ : Rho → β → Hp → Hp → Prop}, RunAt K Wx (bnd (resA hs) k) W ρ σ F κ → StOk K W ρ σ F H → HdsOk K F σ hs vs → ∃ xs, RqA K F H vs xs ∧ RunAt K Wx (k xs) W ρ σ F κ
  | [], _, k, κ, R, S, .nil => ⟨[], .nil, R⟩
  | h :: hs, _, k, κ, R, S, .cons q qs => by
    unfold DL.resA at R
    rw [bnd_assoc] at R
    obtain ⟨x, qx, R1⟩ := R.res S q
    rw [bnd_assoc] at R1
    obtain ⟨xs, qxs, R2⟩ := RunAt.resA R1 S qs
    exact ⟨x :: xs, .cons qx qxs, R2⟩
theorem RunAt.clA : ∀ {hs : List Hd} {vs : List V} {k : List D → M β} {κ : Rho → β → Hp → Hp → Prop} {ρ : Rho} {F : Hp}, RunAt K Wx (bnd (clA hs) k) W ρ σ F κ → StOk K W ρ σ F H → HdsOk K F σ hs vs →
    ∃ xs ρ1 F1, StOk K W ρ1 σ F1 H ∧ Same F F1 ∧ DqA K F1 vs xs ∧ RunAt K Wx (k xs) W ρ1 σ F1 κ
  | [], _, k, κ, ρ, F, R, S, .nil => ⟨[], ρ, F, S, Same.refl _, .nil, R⟩
  | h :: hs, _, k, κ, ρ, F, R, S, .cons q qs => by
    unfold DL.clA at R
    rw [bnd_assoc] at R
    obtain ⟨x, ρ1, F1, S1, s1, qx, R1⟩ := R.cl S q
    rw [bnd_assoc] at R1
    obtain ⟨xs, ρ2, F2, S2, s2, qxs, R2⟩ := RunAt.clA R1 S1 (HdsOk.sm s1 qs)
    exact ⟨x :: xs, ρ2, F2, S2, s1.trans s2, .cons (qx.m s2) qxs, R2⟩
end

section
variable {X : Cx} {Wx : WX} {e a b c : Expr} {es : List Expr} {pos : Pos}
/-! ### lists of one's own, frozen where they are made -/
def dFz (f : M (List D)) : M Hd := bnd f fun xs => pur (.d (.lst xs))
theorem je_fz {f : M (List D)} (h : JO X Wx e f) : JE X Wx e (dFz f) := PE.imp h fun σ H Q ⟨W, F, ρ, S, R⟩ =>
  ⟨W, F, ρ, S, R.bind.imp fun ρ1 xs F1 H1 S1 s1 R1 a ⟨⟨vs, h1, h2⟩, h3, h4⟩ l => by
    have sm := same_freeze S1.fh h1
    exact R1.pur (S1.freezeA h1 h4.1 l) sm (.ref a) (.lst upd_same (h2.m sm))⟩
/-! ### displays -/
@[simp] def sizeD (n : Nat) : Option Unit := if n ≤ 16777216 then some () else none
theorem sizeD_ok {n : Nat} {u : Unit} (h : sizeD n = some u) : n ≤ sizeLine := by
  unfold sizeD at h
  by_cases z : n ≤ 16777216
  · rw [sizeLine_eq]; exact z
  · rw [if_neg z] at h; cases h
def dTup (f : M (List Hd)) : M Hd := bnd f fun hs => bnd (clA hs) fun ds => bnd (lft (sizeD ds.length)) fun _ => pur (.d (.tup ds))
def dLst (f : M (List Hd)) : M (List D) := bnd f fun hs => bnd (clA hs) fun ds => bnd (lft (sizeD ds.length)) fun _ => pur ds
theorem je_tup {f : M (List Hd)} {x1} (h : JA X Wx es f) : JE X Wx (.Tuple es x1 pos) (dTup f) := PE.imp (pe_tup h) fun σ H Q ⟨W, F, ρ, S, R⟩ => by
  refine ⟨W, F, ρ, S, R.bind.imp fun ρ1 hs F1 H1 S1 s1 R1 vs hvs => ?_⟩
  obtain ⟨xs, ρ2, F2, S2, s2, q, R2⟩ := R1.clA S1 hvs
  obtain ⟨u, hu, R3⟩ := R2.lft
  refine ⟨q.length ▸ sizeD_ok hu, fun p hp => ?_⟩
  have al := Alloc.new S2.fh hp (.tup vs)
  exact R3.pur (S2.alloc al) al.ff _ (.tup (.inl (.inl upd_same)) (q.m al.ff))
/-- {} -/
theorem je_emp : JE X Wx (.Dict [] [] pos) (dK .emp) := PE.imp pe_dnewK fun σ H Q ⟨W, F, ρ, S, R⟩ => by
  intro p hp
  have al := Alloc.new S.fh hp (.dK [])
  exact R.pur (S.alloc al) al.ff _ (.emp upd_same)
theorem jo_lst {f : M (List Hd)} (h : JA X Wx es f) : JO X Wx (.List es pos) (dLst f) := PE.imp (pe_lst h) fun σ H Q ⟨W, F, ρ, S, R⟩ => by
  refine ⟨W, F, ρ, S, R.bind.imp fun ρ1 hs F1 H1 S1 s1 R1 vs hvs => ?_⟩
  obtain ⟨xs, ρ2, F2, S2, s2, q, R2⟩ := R1.clA S1 hvs
  obtain ⟨u, hu, R3⟩ := R2.lft
  refine ⟨q.length ▸ sizeD_ok hu, fun p hp => ?_⟩
  have al := Alloc.newO S2.fh hp (.lst vs)
  obtain ⟨f1, f2, f3⟩ := S2.fresh hp
  exact R3.pur (S2.alloc al) al.ff p ⟨⟨vs, upd_same, q⟩, f3, f1⟩ (S2.lone hp)

/-! ### tests -/
@[simp] def truD : D → Option Bool
  | .non => some false
  | .bl b => some b
  | .int i => some (i != 0)
  | .str x => if x.length ≤ 16777216 then some ((x.length : Int) != 0) else none
  | .lst xs => some (!xs.isEmpty)
  | .tup xs => some (!xs.isEmpty)
  | _ => none
def dTst (f : M Hd) : M Bool := bnd f fun h => bnd (res h) fun x => lft (truD x)
theorem Rq.lst {K : PySem.W.Frag} {F H : Hp} {v : V} {ds : List D} (fh : Same F H) (h : Rq K F H v (.lst ds)) : ∃ a vs, v = .ref a ∧ H a = some (.lst vs) ∧ DqA K F vs ds := by
  rcases h with h | ⟨a, vs, ds', h1, h2, h3, h4⟩
  · cases h with
    | lst h1 h2 => exact ⟨_, _, rfl, fh _ _ h1, h2⟩
  · cases h2
    exact ⟨a, vs, h1, h3, h4⟩
theorem Rq.tup {K : PySem.W.Frag} {F H : Hp} {v : V} {ds : List D} (fh : Same F H) (h : Rq K F H v (.tup ds)) : ∃ a vs, v = .ref a ∧ SqT K H a vs ∧ DqA K F vs ds := by
  rcases h with h | ⟨a, vs, ds', h1, h2, h3, h4⟩
  · cases h with
    | tup h1 h2 => exact ⟨_, _, rfl, fh.seqT h1, h2⟩
  · cases h2
theorem Rq.tupF {K : PySem.W.Frag} {F H : Hp} {v : V} {ds : List D} (h : Rq K F H v (.tup ds)) : ∃ a vs, v = .ref a ∧ SqT K F a vs ∧ DqA K F vs ds := by
  rcases h with h | ⟨a, vs, ds', h1, h2, h3, h4⟩
  · cases h with
    | tup h1 h2 => exact ⟨_, _, rfl, h1, h2⟩
  · cases h2
theorem Rq.scr {K : PySem.W.Frag} {F H : Hp} {v : V} {ns : List Int} (fh : Same F H) (h : Rq K F H v (.scr ns)) : ∃ a, v = .ref a ∧ SqL K H a (ns.map V.int) := by
  rcases h with h | ⟨a, vs, ds', h1, h2, h3, h4⟩
  · cases h with
    | scr h1 => exact ⟨_, rfl, fh.seq h1⟩
  · cases h2
theorem Rq.emp {K : PySem.W.Frag} {F H : Hp} {v : V} (fh : Same F H) (h : Rq K F H v .emp) : ∃ a, v = .ref a ∧ H a = some (.dK []) := by
  rcases h with h | ⟨a, vs, ds', h1, h2, h3, h4⟩
  · cases h with
    | emp h1 => exact ⟨_, rfl, fh _ _ h1⟩
  · cases h2
theorem Rq.flat {K : PySem.W.Frag} {F H : Hp} {v : V} {d : D} (h : Rq K F H v d) (hd : ∀ ds, d ≠ .lst ds) : Dq K F v d := by
  rcases h with h | ⟨a, vs, ds', h1, h2, h3, h4⟩
  · exact h
  · exact absurd h2 (hd _)
theorem Rq.int {K : PySem.W.Frag} {F H : Hp} {v : V} {i : Int} (h : Rq K F H v (.int i)) : v = .int i := by
  have q := h.flat fun _ z => nomatch z
  cases q; rfl
theorem Rq.bl {K : PySem.W.Frag} {F H : Hp} {v : V} {i : Bool} (h : Rq K F H v (.bl i)) : v = .bl i := by
  have q := h.flat fun _ z => nomatch z
  cases q; rfl
theorem Rq.str {K : PySem.W.Frag} {F H : Hp} {v : V} {i : Str} (h : Rq K F H v (.str i)) : v = .str i := by
  have q := h.flat fun _ z => nomatch z
  cases q; rfl
theorem Rq.non {K : PySem.W.Frag} {F H : Hp} {v : V} (h : Rq K F H v .non) : v = .non := by
  have q := h.flat fun _ z => nomatch z
  cases q; rfl
theorem Rq.glo {K : PySem.W.Frag} {F H : Hp} {v : V} {x : Str} (h : Rq K F H v (.glo x)) : v = .ref (He.ga K x) := by
  have q := h.flat fun _ z => nomatch z
  cases q; rfl
theorem truD_ok {K : PySem.W.Frag} {F H : Hp} {v : V} {x : D} {k : Bool} (fh : Same F H) (q : Rq K F H v x) (e : truD x = some k) : TruV K v H k := by
  cases x with
  | non => cases q.non; cases e; rfl
  | bl b => cases q.bl; cases e; rfl
  | int i => cases q.int; cases e; rfl
  | str s =>
    cases q.str
    unfold truD at e
    dsimp only at e
    by_cases z : s.length ≤ 16777216
    · rw [if_pos z] at e
      cases e
      exact ⟨by rw [sizeLine_eq]; exact z, rfl⟩
    · rw [if_neg z] at e; cases e
  | tup ds =>
    obtain ⟨a, vs, rfl, h1, h2⟩ := q.tup fh
    cases e
    have hl := h2.length
    refine .inr (.inl ⟨vs, h1, ?_⟩)
    cases h2 <;> rfl
  | lst ds =>
    obtain ⟨a, vs, rfl, h1, h2⟩ := q.lst fh
    cases e
    refine .inl ⟨vs, SqL.of h1, ?_⟩
    cases h2 <;> rfl
  | glo _ => cases e
  | scr _ => cases e
  | emp => cases e
theorem jt_val {f : M Hd} (h : JE X Wx e f) (he : ∀ whole, isTrue e X.env whole = (do let v ← whole; standAt e.pos; holding [v] (truthy v)) := by intro _; rfl) : JT X Wx e (dTst f) := PT.imp (pt_truth h he) fun σ H Q ⟨W, F, ρ, S, R⟩ => by
  refine ⟨W, F, ρ, S, R.bind.imp fun ρ1 h F1 H1 S1 s1 R1 v hv => ?_⟩
  obtain ⟨x, qx, R2⟩ := R1.res S1 hv
  obtain ⟨k, ek, R3⟩ := R2.lft0
  exact ⟨k, truD_ok S1.fh qx ek, R3.pur S1 (Same.refl _)⟩
/-- a value that is True or False -/
@[simp] def blD : D → Option Bool
  | .bl b => some b
  | _ => none
def dB (f : M Hd) : M Bool := bnd f fun h => bnd (res h) fun x => lft (blD x)
theorem tT_b {K : PySem.W.Frag} {f : M Hd} {σ : St} {H : Hp} {Q : Bool → Hp → Prop} (h : tT K Wx (dB f) σ H Q) : tE K Wx f σ H fun x H1 => ∃ c, x = .bl c ∧ Q c H1 := by
  obtain ⟨W, F, ρ, S, R⟩ := h
  refine ⟨W, F, ρ, S, R.bind.imp fun ρ1 h F1 H1 S1 s1 R1 v hv => ?_⟩
  obtain ⟨x, qx, R2⟩ := R1.res S1 hv
  obtain ⟨k, ek, R3⟩ := R2.lft0
  cases x with
  | bl k' => cases ek; exact ⟨k, qx.bl, R3.pur S1 (Same.refl _)⟩
  | _ => cases ek
theorem jt_cmp {op : CmpOp} {o : D → D → Option D} {f g : M Hd} (ho : OpD X (compareOp op) o) (ha : JE X Wx a f) (hb : JE X Wx b g) (hm : behindInMarks op b = false := by first | rfl | exact nomark _) : JT X Wx (.Compare a [op] [b] pos) (dB (dOp o f g)) := by
  obtain ⟨r, hr, hq⟩ := ho
  exact PT.imp (pt_cmpR hr ha hb hm) fun σ H Q h => tE_op hq (tT_b h)
theorem tE_chain {K : PySem.W.Frag} {r r' : R2} {o o' : D → D → Option D} {f g h : M Hd}
    (hq : ∀ (F H : Hp) (v u : V) (x y z : D) (Q : VK), Same F H → Rq K F H v x → Rq K F H u y → o x y = some z → (∀ w F' H', Alloc F H F' H' → Dq K F' w z → Q w H') → r v u H Q)
    (hq' : ∀ (F H : Hp) (v u : V) (x y z : D) (Q : VK), Same F H → Rq K F H v x → Rq K F H u y → o' x y = some z → (∀ w F' H', Alloc F H F' H' → Dq K F' w z → Q w H') → r' v u H Q)
    {σ : St} {H : Hp} {Q : VK} (hh : tE K Wx (dChain o o' f g h) σ H Q) : tChain r r' (tE K Wx f) (tE K Wx g) (tE K Wx h) σ H Q := by
  obtain ⟨W, F, ρ, S, R⟩ := hh
  refine ⟨W, F, ρ, S, R.bind.imp fun ρ1 h F1 H1 S1 s1 R1 v hv => ⟨W, F1, ρ1, S1, R1.bind.imp fun ρ2 k F2 H2 S2 s2 R2 u hu => ?_⟩⟩
  obtain ⟨x, qx, R3⟩ := R2.res S2 (hv.sm s2)
  obtain ⟨y, qy, R4⟩ := R3.res S2 hu
  obtain ⟨z, ez, R5⟩ := R4.lft
  refine hq F2 H2 v u x y z _ S2.fh qx qy ez fun w F' H' al qw => ?_
  have S3 := S2.alloc al
  cases z with
  | bl t =>
    cases qw
    cases t with
    | true =>
      refine ⟨true, rfl, iteT ⟨W, F', ρ2, S3, (R5.sm al.ff).bind.imp fun ρ4 hc F4 H4 S4 s4 R6 w hw => ?_⟩⟩
      obtain ⟨y', qy', R7⟩ := R6.res S4 (hu.sm (al.ff.trans s4))
      obtain ⟨u', qu', R8⟩ := R7.res S4 hw
      obtain ⟨z', ez', R9⟩ := R8.lft
      exact hq' F4 H4 _ _ y' u' z' Q S4.fh qy' qu' ez' fun w F' H' al qw => R9.pur (S4.alloc al) al.ff w qw
    | false => exact ⟨false, rfl, iteF (R5.pur S3 al.ff _ (.bl false))⟩
  | non => obtain ⟨_, _, e, _⟩ := R5; cases e
  | int _ => obtain ⟨_, _, e, _⟩ := R5; cases e
  | str _ => obtain ⟨_, _, e, _⟩ := R5; cases e
  | tup _ => obtain ⟨_, _, e, _⟩ := R5; cases e
  | lst _ => obtain ⟨_, _, e, _⟩ := R5; cases e
  | glo _ => obtain ⟨_, _, e, _⟩ := R5; cases e
  | scr _ => obtain ⟨_, _, e, _⟩ := R5; cases e
  | emp => obtain ⟨_, _, e, _⟩ := R5; cases e
theorem jt_chain {op op' : CmpOp} {o o' : D → D → Option D} {f g h : M Hd} (ho : OpD X (compareOp op) o) (ho' : OpD X (compareOp op') o') (ha : JE X Wx a f) (hb : JE X Wx b g) (hc : JE X Wx c h) (hm : lastMarks [op, op'] [b, c] = false := by rfl) :
    JT X Wx (.Compare a [op, op'] [b, c] pos) (dB (dChain o o' f g h)) := by
  obtain ⟨r, hr, hq⟩ := ho
  obtain ⟨r', hr', hq'⟩ := ho'
  exact PT.imp (pt_chain hr hr' ha hb hc hm) fun σ H Q hh => tE_chain hq hq' (tT_b hh)
def dNot (f : M Bool) : M Bool := bnd f fun b => pur (!b)
theorem jt_not {f : M Bool} (h : JT X Wx a f) : JT X Wx (.UnaryOp .Not a pos) (dNot f) := PT.imp (pt_not h) fun σ H Q ⟨W, F, ρ, S, R⟩ =>
  ⟨W, F, ρ, S, R.bind.imp fun ρ1 h F1 H1 S1 s1 R1 => R1.pur S1 (Same.refl _)⟩
def dAnd (f g : M Bool) : M Bool := bnd f fun b => if b = true then g else pur false
def dOr (f g : M Bool) : M Bool := bnd f fun b => if b = true then pur true else g
theorem PW.imp {t t' : TT} (h : PW X e t) (g : ∀ σ H Q, t' σ H Q → t σ H Q) : PW X e t' := ⟨fun wh pins s σ H Q I hw => h.run wh pins s σ H Q I (g _ _ _ hw)⟩
theorem jw_and1 {f : M Bool} (h : JT X Wx a f) : JW X Wx (.BoolOp .And [a] pos) f := pw_and1 h
theorem jw_or1 {f : M Bool} (h : JT X Wx a f) : JW X Wx (.BoolOp .Or [a] pos) f := pw_or1 h
theorem jw_and {f g : M Bool} {rest : List Expr} (ha : JT X Wx a f) (hb : JW X Wx (.BoolOp .And (b :: rest) pos) g) : JW X Wx (.BoolOp .And (a :: b :: rest) pos) (dAnd f g) := PW.imp (pw_and ha hb) fun σ H Q ⟨W, F, ρ, S, R⟩ =>
  ⟨W, F, ρ, S, R.bind.imp fun ρ1 b F1 H1 S1 s1 R1 => by
    cases b with
    | true => exact iteT ⟨W, F1, ρ1, S1, R1⟩
    | false => exact iteF (R1.pur S1 (Same.refl _))⟩
theorem jw_or {f g : M Bool} {rest : List Expr} (ha : JT X Wx a f) (hb : JW X Wx (.BoolOp .Or (b :: rest) pos) g) : JW X Wx (.BoolOp .Or (a :: b :: rest) pos) (dOr f g) := PW.imp (pw_or ha hb) fun σ H Q ⟨W, F, ρ, S, R⟩ =>
  ⟨W, F, ρ, S, R.bind.imp fun ρ1 b F1 H1 S1 s1 R1 => by
    cases b with
    | true => exact iteT (R1.pur S1 (Same.refl _))
    | false => exact iteF ⟨W, F1, ρ1, S1, R1⟩⟩
theorem jt_w {f : M Bool} (h : JW X Wx e f) : JT X Wx e f := h.pt
/-! ### and, or, not as values -/
def dAndV (f g : M Hd) : M Hd := bnd (dB f) fun b => if b = true then g else pur (.d (.bl false))
def dOrV (f g : M Hd) : M Hd := bnd (dB f) fun b => if b = true then pur (.d (.bl true)) else g
def dNotV (f : M Hd) : M Hd := bnd (dB f) fun b => pur (.d (.bl !b))
theorem je_one {op} {f : M Hd} (h : JE X Wx a f) : JE X Wx (.BoolOp op [a] pos) f := pe_one h
theorem je_and {f g : M Hd} {rest : List Expr} (ha : JE X Wx a f) (hb : JE X Wx (.BoolOp .And (b :: rest) pos) g) : JE X Wx (.BoolOp .And (a :: b :: rest) pos) (dAndV f g) := PE.imp (pe_and ha hb) fun σ H Q ⟨W, F, ρ, S, R⟩ =>
  tT_b ⟨W, F, ρ, S, R.bind.imp fun ρ1 b F1 H1 S1 s1 R1 => by
    cases b with
    | true => exact iteT ⟨W, F1, ρ1, S1, R1⟩
    | false => exact iteF (R1.pur S1 (Same.refl _) _ (.bl _))⟩
theorem je_or {f g : M Hd} {rest : List Expr} (ha : JE X Wx a f) (hb : JE X Wx (.BoolOp .Or (b :: rest) pos) g) : JE X Wx (.BoolOp .Or (a :: b :: rest) pos) (dOrV f g) := PE.imp (pe_or ha hb) fun σ H Q ⟨W, F, ρ, S, R⟩ =>
  tT_b ⟨W, F, ρ, S, R.bind.imp fun ρ1 b F1 H1 S1 s1 R1 => by
    cases b with
    | true => exact iteT (R1.pur S1 (Same.refl _) _ (.bl _))
    | false => exact iteF ⟨W, F1, ρ1, S1, R1⟩⟩
theorem je_not {f : M Hd} (h : JE X Wx a f) : JE X Wx (.UnaryOp .Not a pos) (dNotV f) := PE.imp (pe_not h) fun σ H Q ⟨W, F, ρ, S, R⟩ =>
  tT_b ⟨W, F, ρ, S, R.bind.imp fun ρ1 b F1 H1 S1 s1 R1 => R1.pur S1 (Same.refl _) _ (.bl _)⟩
def dIf (c : M Bool) (f g : M Hd) : M Hd := bnd c fun b => if b = true then f else g
theorem je_if {c : Expr} {t : M Bool} {f g : M Hd} (hc : JT X Wx c t) (ha : JE X Wx a f) (hb : JE X Wx b g) : JE X Wx (.IfExp c a b pos) (dIf t f g) := PE.imp (pe_ifExp hc ha hb) fun σ H Q ⟨W, F, ρ, S, R⟩ =>
  ⟨W, F, ρ, S, R.bind.imp fun ρ1 b F1 H1 S1 s1 R1 => by
    cases b with
    | true => exact iteT ⟨W, F1, ρ1, S1, R1⟩
    | false => exact iteF ⟨W, F1, ρ1, S1, R1⟩⟩

/-! ### built-ins called -/
def CallD (X : Cx) (f : Value) (o : List D → Option D) : Prop :=
  ∃ r : List V → Hp → VK → Prop, CallR X f r ∧ ∀ (F H : Hp) (vs : List V) (xs : List D) (z : D) (Q : VK), Same F H → RqA X.K F H vs xs → o xs = some z → (∀ w F' H', Alloc F H F' H' → Dq X.K F' w z → Q w H') → r vs H Q
def CallO (X : Cx) (f : Value) (o : List D → Option (List D)) : Prop :=
  ∃ r : List V → Hp → VK → Prop, CallR X f r ∧ ∀ (F H : Hp) (vs : List V) (xs : List D) (zs : List D) (Q : VK), Same F H → RqA X.K F H vs xs → o xs = some zs → (∀ p ws, H p = none → DqA X.K F ws zs → Q (.ref p) (upd H p (.lst ws))) → r vs H Q
def dCallB (o : List D → Option D) (f : M (List Hd)) : M Hd := bnd f fun hs => bnd (resA hs) fun xs => bnd (lft (o xs)) fun z => pur (.d z)
def dCallO (o : List D → Option (List D)) (f : M (List Hd)) : M (List D) := bnd f fun hs => bnd (resA hs) fun xs => lft (o xs)
theorem tE_call {K : PySem.W.Frag} {r : List V → Hp → VK → Prop} {o : List D → Option D} (hq : ∀ (F H : Hp) (vs : List V) (xs : List D) (z : D) (Q : VK), Same F H → RqA K F H vs xs → o xs = some z → (∀ w F' H', Alloc F H F' H' → Dq K F' w z → Q w H') → r vs H Q)
    {f : M (List Hd)} {σ : St} {H : Hp} {Q : VK} (h : tE K Wx (dCallB o f) σ H Q) : tCB r (tA K Wx f) σ H Q := by
  obtain ⟨W, F, ρ, S, R⟩ := h
  refine ⟨W, F, ρ, S, R.bind.imp fun ρ1 hs F1 H1 S1 s1 R1 vs hvs => ?_⟩
  obtain ⟨xs, q, R2⟩ := R1.resA S1 hvs
  obtain ⟨z, ez, R3⟩ := R2.lft
  exact hq F1 H1 vs xs z Q S1.fh q ez fun w F' H' al qw => R3.pur (S1.alloc al) al.ff w qw
theorem tO_call {K : PySem.W.Frag} {r : List V → Hp → VK → Prop} {o : List D → Option (List D)} (hq : ∀ (F H : Hp) (vs : List V) (xs : List D) (zs : List D) (Q : VK), Same F H → RqA K F H vs xs → o xs = some zs → (∀ p ws, H p = none → DqA K F ws zs → Q (.ref p) (upd H p (.lst ws))) → r vs H Q)
    {f : M (List Hd)} {σ : St} {H : Hp} {Q : VK} (h : tO K Wx (dCallO o f) σ H Q) : tCB r (tA K Wx f) σ H Q := by
  obtain ⟨W, F, ρ, S, R⟩ := h
  refine ⟨W, F, ρ, S, R.bind.imp fun ρ1 hs F1 H1 S1 s1 R1 vs hvs => ?_⟩
  obtain ⟨xs, q, R2⟩ := R1.resA S1 hvs
  obtain ⟨z, ez, R3⟩ := R2.lft0
  refine hq F1 H1 vs xs z Q S1.fh q ez fun p ws hp qw => ?_
  have al := Alloc.newO S1.fh hp (.lst ws)
  obtain ⟨f1, f2, f3⟩ := S1.fresh hp
  exact R3.pur (S1.alloc al) al.ff p ⟨⟨ws, upd_same, qw⟩, f3, f1⟩ (S1.lone hp)
variable {x : Str} {p : Pos} {id T : String}
theorem je_callB {o : List D → Option D} {f : M (List Hd)} (hc : CallD X (.builtin id) o) (hg : Gl X x) (hm : X.mg x = none) (hv : bootBuiltins x = some (.builtin id)) (ha : JA X Wx (e :: es) f) (hn : x ≠ "__name__" := by decide) (hdb : (x == ("__debug__" : Str)) = false := by decide)
    (he : starEach (e :: es) X.env = (false, eval e X.env) :: starEach es X.env := by rfl) (hpl : (backTo pos (starEach es X.env)).any (·.1) = false := by rfl) : JE X Wx (.Call (.Name x p) (e :: es) [] pos) (dCallB o f) := by
  obtain ⟨r, hr, hq⟩ := hc
  exact PE.imp (pe_callB hr hg hm hv ha hn hdb he hpl) fun σ H Q h => tE_call hq h
theorem je_callTy {o : List D → Option D} {f : M (List Hd)} (hc : CallD X (.type T) o) (hg : Gl X x) (hm : X.mg x = none) (hv : bootBuiltins x = some (.type T)) (ha : JA X Wx (e :: es) f) (hn : x ≠ "__name__" := by decide) (hdb : (x == ("__debug__" : Str)) = false := by decide)
    (he : starEach (e :: es) X.env = (false, eval e X.env) :: starEach es X.env := by rfl) (hpl : (backTo pos (starEach es X.env)).any (·.1) = false := by rfl) : JE X Wx (.Call (.Name x p) (e :: es) [] pos) (dCallB o f) := by
  obtain ⟨r, hr, hq⟩ := hc
  exact PE.imp (pe_callTy hr hg hm hv ha hn hdb he hpl) fun σ H Q h => tE_call hq h
theorem jo_callB {o : List D → Option (List D)} {f : M (List Hd)} (hc : CallO X (.builtin id) o) (hg : Gl X x) (hm : X.mg x = none) (hv : bootBuiltins x = some (.builtin id)) (ha : JA X Wx (e :: es) f) (hn : x ≠ "__name__" := by decide) (hdb : (x == ("__debug__" : Str)) = false := by decide)
    (he : starEach (e :: es) X.env = (false, eval e X.env) :: starEach es X.env := by rfl) (hpl : (backTo pos (starEach es X.env)).any (·.1) = false := by rfl) : JO X Wx (.Call (.Name x p) (e :: es) [] pos) (dCallO o f) := by
  obtain ⟨r, hr, hq⟩ := hc
  exact PE.imp (pe_callB hr hg hm hv ha hn hdb he hpl) fun σ H Q h => tO_call hq h
theorem jo_callTy {o : List D → Option (List D)} {f : M (List Hd)} (hc : CallO X (.type T) o) (hg : Gl X x) (hm : X.mg x = none) (hv : bootBuiltins x = some (.type T)) (ha : JA X Wx (e :: es) f) (hn : x ≠ "__name__" := by decide) (hdb : (x == ("__debug__" : Str)) = false := by decide)
    (he : starEach (e :: es) X.env = (false, eval e X.env) :: starEach es X.env := by rfl) (hpl : (backTo pos (starEach es X.env)).any (·.1) = false := by rfl) : JO X Wx (.Call (.Name x p) (e :: es) [] pos) (dCallO o f) := by
  obtain ⟨r, hr, hq⟩ := hc
  exact PE.imp (pe_callTy hr hg hm hv ha hn hdb he hpl) fun σ H Q h => tO_call hq h
/-- an operator whose end is a fresh list -/
def OpO (X : Cx) (f : Value → Value → Sem Value) (o : D → D → Option (List D)) : Prop :=
  ∃ r : R2, OpR X f r ∧ ∀ (F H : Hp) (v u : V) (x y : D) (zs : List D) (Q : VK), Same F H → Rq X.K F H v x → Rq X.K F H u y → o x y = some zs → (∀ p ws, H p = none → DqA X.K F ws zs → Q (.ref p) (upd H p (.lst ws))) → r v u H Q
def dOpO (o : D → D → Option (List D)) (f g : M Hd) : M (List D) := bnd f fun h => bnd g fun k => bnd (res h) fun x => bnd (res k) fun y => lft (o x y)
theorem jo_op {op : Operator} {o : D → D → Option (List D)} {f g : M Hd} (ho : OpO X (binaryOp op) o) (ha : JE X Wx a f) (hb : JE X Wx b g) : JO X Wx (.BinOp a op b pos) (dOpO o f g) := by
  obtain ⟨r, hr, hq⟩ := ho
  refine PE.imp (pe_op hr ha hb) fun σ H Q ⟨W, F, ρ, S, R⟩ => ?_
  refine ⟨W, F, ρ, S, R.bind.imp fun ρ1 h F1 H1 S1 s1 R1 v hv => ⟨W, F1, ρ1, S1, R1.bind.imp fun ρ2 k F2 H2 S2 s2 R2 u hu => ?_⟩⟩
  obtain ⟨x, qx, R3⟩ := R2.res S2 (hv.sm s2)
  obtain ⟨y, qy, R4⟩ := R3.res S2 hu
  obtain ⟨z, ez, R5⟩ := R4.lft0
  refine hq F2 H2 v u x y z Q S2.fh qx qy ez fun p ws hp qw => ?_
  have al := Alloc.newO S2.fh hp (.lst ws)
  obtain ⟨f1, f2, f3⟩ := S2.fresh hp
  exact R5.pur (S2.alloc al) al.ff p ⟨⟨ws, upd_same, qw⟩, f3, f1⟩ (S2.lone hp)

/-! ### subscripts -/
def IxD (X : Cx) (o : D → D → Option D) : Prop :=
  ∃ r : R2, IxR X r ∧ ∀ (F H : Hp) (v u : V) (x y z : D) (Q : VK), Same F H → Rq X.K F H v x → Rq X.K F H u y → o x y = some z → (∀ w F' H', Alloc F H F' H' → Dq X.K F' w z → Q w H') → r v u H Q
theorem je_ix {o : D → D → Option D} {f g : M Hd} (ho : IxD X o) (ha : JE X Wx a f) (hb : JE X Wx b g) (hs : PlainIx b := by exact fun _ _ => rfl) : JE X Wx (.Subscript a b pos) (dOp o f g) := by
  obtain ⟨r, hr, hq⟩ := ho
  exact PE.imp (pe_ix hr ha hb hs) fun σ H Q h => tE_op hq h
/-! ### slices -/
def tP (K : PySem.W.Frag) (Wx : WX) (f : M (Option Int)) : TO := fun σ H Q => ∃ W F ρ, StOk K W ρ σ F H ∧ RunAt K Wx f W ρ σ F fun _ b _ H' => Q b H'
abbrev JP (X : Cx) (Wx : WX) (e : Option Expr) (f : M (Option Int)) : Prop := PO X e (tP X.K Wx f)
def dNo : M (Option Int) := pur none
@[simp] def intD : D → Option Int
  | .int i => some i
  | _ => none
def dSo (f : M Hd) : M (Option Int) := bnd f fun h => bnd (res h) fun x => bnd (lft (intD x)) fun i => pur (some i)
theorem PO.imp {e : Option Expr} {t t' : TO} (h : PO X e t) (g : ∀ σ H Q, t' σ H Q → t σ H Q) : PO X e t' := ⟨fun pins s σ H Q I hw => h.run pins s σ H Q I (g _ _ _ hw)⟩
theorem jp_none : JP X Wx none dNo := PO.imp po_none fun σ H Q ⟨W, F, ρ, S, R⟩ => R.pur S (Same.refl _)
theorem jp_some {f : M Hd} (h : JE X Wx e f) : JP X Wx (some e) (dSo f) := PO.imp (po_some h) fun σ H Q ⟨W, F, ρ, S, R⟩ => by
  refine ⟨W, F, ρ, S, R.bind.imp fun ρ1 h F1 H1 S1 s1 R1 v hv => ?_⟩
  obtain ⟨x, qx, R2⟩ := R1.res S1 hv
  obtain ⟨i, ei, R3⟩ := R2.lft
  cases x with
  | int j => cases ei; exact ⟨i, qx.int, R3.pur S1 (Same.refl _)⟩
  | _ => cases ei
def SlD (X : Cx) (o : D → Option Int → Option Int → Option D) : Prop :=
  ∃ r : V → Option Int → Option Int → Hp → VK → Prop, SlR X r ∧ ∀ (F H : Hp) (v : V) (x : D) (lo hi : Option Int) (z : D) (Q : VK), Same F H → Rq X.K F H v x → o x lo hi = some z → (∀ w F' H', Alloc F H F' H' → Dq X.K F' w z → Q w H') → r v lo hi H Q
def dSl (o : D → Option Int → Option Int → Option D) (f : M Hd) (l h : M (Option Int)) : M Hd := bnd f fun k => bnd l fun lo => bnd h fun hi => bnd (res k) fun x => bnd (lft (o x lo hi)) fun z => pur (.d z)
theorem je_sl {o : D → Option Int → Option Int → Option D} {f : M Hd} {l h : M (Option Int)} {lo hi : Option Expr} {p2 : Pos} (ho : SlD X o) (ha : JE X Wx a f) (hl : JP X Wx lo l) (hh : JP X Wx hi h) : JE X Wx (.Subscript a (.Slice lo hi none p2) pos) (dSl o f l h) := by
  obtain ⟨r, hr, hq⟩ := ho
  refine PE.imp (pe_slice hr ha hl hh) fun σ H Q ⟨W, F, ρ, S, R⟩ => ?_
  refine ⟨W, F, ρ, S, R.bind.imp fun ρ1 k F1 H1 S1 s1 R1 v hv => ⟨W, F1, ρ1, S1, R1.bind.imp fun ρ2 lo F2 H2 S2 s2 R2 => ⟨W, F2, ρ2, S2, R2.bind.imp fun ρ3 hi F3 H3 S3 s3 R3 => ?_⟩⟩⟩
  obtain ⟨x, qx, R4⟩ := R3.res S3 (hv.sm (s2.trans s3))
  obtain ⟨z, ez, R5⟩ := R4.lft
  exact hq F3 H3 v x lo hi z Q S3.fh qx ez fun w F' H' al qw => R5.pur (S3.alloc al) al.ff w qw
end
end DL
end
section
set_option Elab.async false
set_option linter.all false
set_option maxRecDepth 100000
/-! DL4: what is walked, targets, comprehensions, statements, loops. -/
namespace DL
open PySem PySem.Spec L2
open PyProof.Rows hiding St
variable [Tb0]

/-! ### what is walked -/
structure ItOk (K : PySem.W.Frag) (F : Hp) (J : It) (items : List D) : Prop where
  go : ∀ F' H' i, Same F F' → Same F' H' → i < items.length → J.go i H'
  stop : ∀ F' H' i, Same F F' → Same F' H' → items.length ≤ i → J.stop i H'
  yld : ∀ F' H' i x H'' d, Same F F' → Same F' H' → items[i]? = some d → J.yld i H' x H'' → ∃ F'', Alloc F' H' F'' H'' ∧ Dq K F'' x d
def tI (K : PySem.W.Frag) (Wx : WX) (f : M (List D)) : TI := fun σ H R => ∃ W F ρ, StOk K W ρ σ F H ∧ RunAt K Wx f W ρ σ F fun _ items F' H' => ∀ J, ItOk K F' J items → R J H'
abbrev JI (X : Cx) (Wx : WX) (tg e : Expr) (f : M (List D)) : Prop := PI X tg e (tI X.K Wx f)
section
variable {X : Cx} {Wx : WX} {e a b c tg : Expr} {es : List Expr} {pos p : Pos}
theorem PI.imp {t t' : TI} (h : PI X tg e t) (g : ∀ σ H Q, t' σ H Q → t σ H Q) : PI X tg e t' := ⟨fun pins s σ H Q I hw => h.run pins s σ H Q I (g _ _ _ hw)⟩
@[simp] def seqD : D → Option (List D)
  | .lst xs => some xs
  | .tup xs => some xs
  | _ => none
def dIt (f : M Hd) : M (List D) := bnd f fun h => bnd (cl h) fun x => lft (seqD x)
theorem itOk_list {K : PySem.W.Frag} {F : Hp} {a : Addr} {vs : List V} {ds : List D} (h : F a = some (.lst vs)) (q : DqA K F vs ds) : ItOk K F (Itl K a) ds where
  go := fun F' H' i s1 s2 hi => ⟨vs, vs[i]'(by rw [q.length]; exact hi), SqL.of (s2 _ _ (s1 _ _ h)), List.getElem?_eq_getElem _⟩
  stop := fun F' H' i s1 s2 hi => ⟨vs, SqL.of (s2 _ _ (s1 _ _ h)), by rw [q.length]; exact hi⟩
  yld := fun F' H' i x H'' d s1 s2 hd ⟨e, y⟩ => by
    subst e
    have hx := y vs (SqL.of (s2 _ _ (s1 _ _ h)))
    obtain ⟨v, h1, h2⟩ := q.get hd
    rw [hx] at h1; cases h1
    exact ⟨F', Alloc.refl s2, h2.m s1⟩
theorem itOk_tup {K : PySem.W.Frag} {F : Hp} {a : Addr} {vs : List V} {ds : List D} (h : SqT K F a vs) (q : DqA K F vs ds) : ItOk K F (Itt K a) ds where
  go := fun F' H' i s1 s2 hi => ⟨vs, vs[i]'(by rw [q.length]; exact hi), s2.seqT (s1.seqT h), List.getElem?_eq_getElem _⟩
  stop := fun F' H' i s1 s2 hi => ⟨vs, s2.seqT (s1.seqT h), by rw [q.length]; exact hi⟩
  yld := fun F' H' i x H'' d s1 s2 hd ⟨e, y⟩ => by
    subst e
    have hx := y vs (s2.seqT (s1.seqT h))
    obtain ⟨v, h1, h2⟩ := q.get hd
    rw [hx] at h1; cases h1
    exact ⟨F', Alloc.refl s2, h2.m s1⟩
/-- a list or a tuple walked -/
theorem pi_seq {te : TE} (hl : PE X e te) : PI X tg e (fun σ H R => te σ H fun x H1 => (∃ a, x = .ref a ∧ (∃ xs, SqL X.K H1 a xs) ∧ R (Itl X.K a) H1) ∨ (∃ a, x = .ref a ∧ (∃ xs, SqT X.K H1 a xs) ∧ R (Itt X.K a) H1)) := by
  refine ⟨fun pins s σ H R I h => ?_⟩
  refine thn (hl.run pins s σ H _ I h) fun v s1 ⟨x, H1, I1, r1, q1⟩ => ?_
  rcases q1 with ⟨a, e, ⟨xs, hq⟩, q⟩ | ⟨a, e, ⟨xs, hq⟩, q⟩
  · subst e
    cases r1
    obtain ⟨its, rv, p, hz⟩ := I1.list hq
    refine wpAny_pyIter_list p.isList ?_
    refine ⟨s1.heap.objs.size, [s1.heap.objs.size], _, _, H1, rfl, I1.kept (t' := s1.toks) fun b o e => Heap.get?_push_of_some _ e, turn_list a _, ⟨_, Heap.get?_push_size _ rfl, rfl, rfl⟩, fun b hb => ?_, q⟩
    have e : b = s1.heap.objs.size := by simpa using hb
    subst e
    exact I1.fpOk (Nat.le_refl _) (I1.hok.fresh (Nat.le_refl _))
  · subst e
    cases r1
    obtain ⟨its, rv, p, hz⟩ := I1.tuple hq
    refine wpAny_pyIter_tuple (show s1.heap.IsTuple a its.toArray from p) ?_
    refine ⟨s1.heap.objs.size, [s1.heap.objs.size], _, _, H1, rfl, I1.kept (t' := s1.toks) fun b o e => Heap.get?_push_of_some _ e, turn_tuple a _, ⟨_, Heap.get?_push_size _ rfl, rfl, rfl⟩, fun b hb => ?_, q⟩
    have e : b = s1.heap.objs.size := by simpa using hb
    subst e
    exact I1.fpOk (Nat.le_refl _) (I1.hok.fresh (Nat.le_refl _))
theorem ji_seq {f : M Hd} (h : JE X Wx e f) : JI X Wx tg e (dIt f) := PI.imp (pi_seq h) fun σ H R0 ⟨W, F, ρ, S, R⟩ => by
  refine ⟨W, F, ρ, S, R.bind.imp fun ρ1 h F1 H1 S1 s1 R1 v hv => ?_⟩
  obtain ⟨x, ρ2, F2, S2, s2, qx, R2⟩ := R1.cl S1 hv
  obtain ⟨items, ei, R3⟩ := R2.lft0
  cases x with
  | lst ds =>
    cases ei
    cases qx with
    | lst h1 h2 => exact .inl ⟨_, rfl, ⟨_, SqL.of (S2.fh _ _ h1)⟩, R3.pur S2 (Same.refl _) _ (itOk_list h1 h2)⟩
  | tup ds =>
    cases ei
    cases qx with
    | tup h1 h2 => exact .inr ⟨_, rfl, ⟨_, S2.fh.seqT h1⟩, R3.pur S2 (Same.refl _) _ (itOk_tup h1 h2)⟩
  | _ => cases ei
/-- ranges -/
def rngD (lo : Int) (n : Nat) : List D := (List.range n).map fun k => .int (lo + (k : Nat))
theorem rngD_len (lo : Int) (n : Nat) : (rngD lo n).length = n := by simp [rngD]
theorem rngD_get {lo : Int} {n i : Nat} {d : D} (h : (rngD lo n)[i]? = some d) : i < n ∧ d = .int (lo + (i : Nat)) := by
  have hi : i < n := by
    have := (List.getElem?_eq_some_iff.mp h).1
    rw [rngD_len] at this; exact this
  refine ⟨hi, ?_⟩
  unfold rngD at h
  rw [List.getElem?_map, List.getElem?_range hi] at h
  cases h; rfl
theorem itOk_rng {K : PySem.W.Frag} {F : Hp} (lo : Int) (n : Nat) : ItOk K F (Itr lo n) (rngD lo n) where
  go := fun F' H' i s1 s2 hi => by rw [rngD_len] at hi; exact hi
  stop := fun F' H' i s1 s2 hi => by rw [rngD_len] at hi; exact hi
  yld := fun F' H' i x H'' d s1 s2 hd ⟨e, y⟩ => by
    subst e; subst y
    rw [(rngD_get hd).2]
    exact ⟨F', Alloc.refl s2, .int _⟩
/-- an int of a machine's size -/
def SmI (j : Int) : Prop := Nat.ble j.natAbs 2305843009213693952 = true
instance (j : Int) : Decidable (SmI j) := inferInstanceAs (Decidable (_ = _))
theorem SmI.lo {j : Int} (h : SmI j) : -(2 ^ 62) ≤ j := by
  have := Nat.le_of_ble_eq_true h
  omega
theorem SmI.hi {j : Int} (h : SmI j) : j < 2 ^ 62 := by
  have := Nat.le_of_ble_eq_true h
  omega
theorem SmI.of {j : Int} (h : -1000000 ≤ j ∧ j ≤ 1000000) : SmI j := Nat.ble_eq_true_of_le (by omega)
def oRng1 : D → Option (List D)
  | .int j => if SmI j then some (rngD 0 j.toNat) else none
  | _ => none
def oRng2 : D → D → Option (List D)
  | .int i, .int j => if SmI i ∧ SmI j then some (rngD i (j - i).toNat) else none
  | _, _ => none
def dRng1 (f : M Hd) : M (List D) := bnd f fun h => bnd (res h) fun x => lft (oRng1 x)
def dRng2 (f g : M Hd) : M (List D) := bnd f fun h => bnd g fun k => bnd (res h) fun x => bnd (res k) fun y => lft (oRng2 x y)
theorem RqA.one {K : PySem.W.Frag} {F H : Hp} {vs : List V} {x : D} (h : RqA K F H vs [x]) : ∃ v, vs = [v] ∧ Rq K F H v x := by
  cases h with
  | cons r t => cases t; exact ⟨_, rfl, r⟩
theorem RqA.two {K : PySem.W.Frag} {F H : Hp} {vs : List V} {x y : D} (h : RqA K F H vs [x, y]) : ∃ v u, vs = [v, u] ∧ Rq K F H v x ∧ Rq K F H u y := by
  cases h with
  | cons r t => cases t with
    | cons r2 t => cases t; exact ⟨_, _, rfl, r, r2⟩
theorem RqA.three {K : PySem.W.Frag} {F H : Hp} {vs : List V} {x y z : D} (h : RqA K F H vs [x, y, z]) : ∃ v u w, vs = [v, u, w] ∧ Rq K F H v x ∧ Rq K F H u y ∧ Rq K F H w z := by
  cases h with
  | cons r t => cases t with
    | cons r2 t => cases t with
      | cons r3 t => cases t; exact ⟨_, _, _, rfl, r, r2, r3⟩
theorem RqA.len {K : PySem.W.Frag} {F H : Hp} {vs : List V} {xs : List D} (h : RqA K F H vs xs) : vs.length = xs.length := Paired.length h
theorem HdsOk.len {K : PySem.W.Frag} {F : Hp} {σ : St} {vs : List V} {xs : List Hd} (h : HdsOk K F σ xs vs) : xs.length = vs.length := Paired.length h
theorem ji_rng1 {f : M Hd} (hg : Gl X "range") (hm : X.mg "range" = none) (ha : JE X Wx a f) (hs : starEach [a] X.env = [(false, eval a X.env)] := by rfl) : JI X Wx tg (.Call (.Name "range" p) [a] [] pos) (dRng1 f) := PI.imp (pi_range1 hg hm (pa_cons ha pa_nil hs) hs) fun σ H R0 ⟨W, F, ρ, S, R⟩ => by
  refine ⟨W, F, ρ, S, R.bind.imp fun ρ1 h F1 H1 S1 s1 R1 v hv => ?_⟩
  obtain ⟨x, q, R2⟩ := R1.res S1 hv
  obtain ⟨items, ei, R3⟩ := R2.lft0
  cases x with
  | int j =>
    have ei : (if SmI j then some (rngD 0 j.toNat) else none) = some items := ei
    by_cases c : SmI j
    · rw [if_pos c] at ei
      cases ei
      rw [q.int]
      exact ⟨j, rfl, c.lo, c.hi, R3.pur S1 (Same.refl _) _ (itOk_rng 0 _)⟩
    · rw [if_neg c] at ei; cases ei
  | _ => cases ei
theorem ji_rng2 {f g : M Hd} (hg : Gl X "range") (hm : X.mg "range" = none) (ha : JE X Wx a f) (hb : JE X Wx b g) (hs : starEach [a, b] X.env = [(false, eval a X.env), (false, eval b X.env)] := by rfl) (hs2 : starEach [b] X.env = [(false, eval b X.env)] := by rfl) :
    JI X Wx tg (.Call (.Name "range" p) [a, b] [] pos) (dRng2 f g) := PI.imp (pi_range2 hg hm (pa_cons ha (pa_cons hb pa_nil hs2) (by rw [hs, hs2])) hs hs2) fun σ H R0 ⟨W, F, ρ, S, R⟩ => by
  refine ⟨W, F, ρ, S, R.bind.imp fun ρ1 h F1 H1 S1 s1 R1 v hv => ⟨W, F1, ρ1, S1, R1.bind.imp fun ρ2 k F2 H2 S2 s2 R2 u hu => ?_⟩⟩
  obtain ⟨x, q, R3⟩ := R2.res S2 (hv.sm s2)
  obtain ⟨y, q', R4⟩ := R3.res S2 hu
  obtain ⟨items, ei, R5⟩ := R4.lft0
  cases x with
  | int i =>
    cases y with
    | int j =>
      have ei : (if SmI i ∧ SmI j then some (rngD i (j - i).toNat) else none) = some items := ei
      by_cases c : SmI i ∧ SmI j
      · rw [if_pos c] at ei
        cases ei
        rw [q.int, q'.int]
        exact ⟨i, j, rfl, ⟨c.1.lo, c.1.hi, c.2.lo, c.2.hi⟩, R5.pur S2 (Same.refl _) _ (itOk_rng i _)⟩
      · rw [if_neg c] at ei; cases ei
    | _ => cases ei
  | _ => cases ei
/-- range(a, b, -1) -/
def rngC (lo c : Int) (n : Nat) : List D := (List.range n).map fun k => .int (lo + (k : Nat) * c)
theorem rngC_len (lo c : Int) (n : Nat) : (rngC lo c n).length = n := by simp [rngC]
theorem itOk_rngC {K : PySem.W.Frag} {F : Hp} (lo c : Int) (n : Nat) : ItOk K F (Itc lo c n) (rngC lo c n) where
  go := fun F' H' i s1 s2 hi => by rw [rngC_len] at hi; exact hi
  stop := fun F' H' i s1 s2 hi => by rw [rngC_len] at hi; exact hi
  yld := fun F' H' i x H'' d s1 s2 hd ⟨e, y⟩ => by
    subst e; subst y
    have hi : i < n := by
      have := (List.getElem?_eq_some_iff.mp hd).1
      rw [rngC_len] at this; exact this
    unfold rngC at hd
    rw [List.getElem?_map, List.getElem?_range hi] at hd
    cases hd
    exact ⟨F', Alloc.refl s2, .int _⟩
/-- a range that falls by ones -/
def oRngN : D → D → D → Option (List D)
  | .int i, .int j, .int c => if c = -1 ∧ SmI i ∧ SmI j then some (rngC i (-1) (i - j).toNat) else none
  | _, _, _ => none
def dRngN (f g h : M Hd) : M (List D) := bnd f fun h1 => bnd g fun h2 => bnd h fun h3 => bnd (res h1) fun x => bnd (res h2) fun y => bnd (res h3) fun z => lft (oRngN x y z)
/-- enumerate of a list -/
def enD (xs : List D) : List D := (List.range xs.length).map fun k => .tup [.int (k : Nat), xs.getD k .non]
theorem enD_len (xs : List D) : (enD xs).length = xs.length := by simp [enD]
theorem itOk_en {K : PySem.W.Frag} {F : Hp} {a : Addr} {vs : List V} {ds : List D} (h : F a = some (.lst vs)) (q : DqA K F vs ds) : ItOk K F (Ite K a) (enD ds) where
  go := fun F' H' i s1 s2 hi => by
    rw [enD_len] at hi
    exact ⟨vs, vs[i]'(by rw [q.length]; exact hi), SqL.of (s2 _ _ (s1 _ _ h)), List.getElem?_eq_getElem _⟩
  stop := fun F' H' i s1 s2 hi => ⟨vs, SqL.of (s2 _ _ (s1 _ _ h)), by rw [enD_len] at hi; rw [q.length]; exact hi⟩
  yld := fun F' H' i x H'' d s1 s2 hd ⟨T, y, ev, hT, eH, hy⟩ => by
    subst ev; subst eH
    have hi : i < ds.length := by
      have := (List.getElem?_eq_some_iff.mp hd).1
      rw [enD_len] at this; exact this
    have hx := hy vs (SqL.of (s2 _ _ (s1 _ _ h)))
    obtain ⟨v, h1, h2⟩ := q.get (List.getElem?_eq_getElem hi)
    rw [hx] at h1; cases h1
    unfold enD at hd
    rw [List.getElem?_map, List.getElem?_range hi] at hd
    cases hd
    have al := Alloc.new s2 hT (.tup [.int (i : Nat), y])
    refine ⟨_, al, .tup (.inl (.inl upd_same)) (.cons (.int _) (.cons ?_ .nil))⟩
    rw [List.getD_eq_getElem?_getD, List.getElem?_eq_getElem hi]
    exact h2.m (s1.trans al.ff)
@[simp] def lstD : D → Option (List D)
  | .lst xs => some xs
  | _ => none
@[simp] def tupD : D → Option (List D)
  | .tup xs => some xs
  | _ => none
def dEn (f : M Hd) : M (List D) := bnd f fun h => bnd (cl h) fun x => bnd (lft (lstD x)) fun xs => pur (enD xs)
theorem ji_en {f : M Hd} {elts : List Expr} {kk : Nat} {tpos : Pos} (hg : Gl X "enumerate") (hm : X.mg "enumerate" = none) (ha : JE X Wx a f) (hs : starEach [a] X.env = [(false, eval a X.env)] := by rfl) :
    JI X Wx (.Tuple elts kk tpos) (.Call (.Name "enumerate" p) [a] [] pos) (dEn f) := PI.imp (pi_enum hg hm (pa_cons ha pa_nil hs) hs) fun σ H R0 ⟨W, F, ρ, S, R⟩ => by
  refine ⟨W, F, ρ, S, R.bind.imp fun ρ1 h F1 H1 S1 s1 R1 v hv => ?_⟩
  obtain ⟨x, ρ2, F2, S2, s2, qx, R2⟩ := R1.cl S1 hv
  obtain ⟨items, ei, R3⟩ := R2.lft
  cases x with
  | lst ds =>
    cases ei
    cases qx with
    | lst h1 h2 => exact ⟨_, _, rfl, SqL.of (S2.fh _ _ h1), R3.pur S2 (Same.refl _) _ (itOk_en h1 h2)⟩
  | _ => cases ei
/-- zip of two lists, of two tuples -/
def zpD (xs ys : List D) : List D := List.zipWith (fun x y => .tup [x, y]) xs ys
theorem zp_get {xs ys : List D} {i : Nat} {d : D} (h : (zpD xs ys)[i]? = some d) : ∃ x y, xs[i]? = some x ∧ ys[i]? = some y ∧ d = .tup [x, y] := by
  unfold zpD at h
  rw [List.getElem?_zipWith] at h
  cases hx : xs[i]? with
  | none => rw [hx] at h; simp at h
  | some x =>
    cases hy : ys[i]? with
    | none => rw [hx, hy] at h; simp at h
    | some y =>
      rw [hx, hy] at h
      exact ⟨x, y, rfl, rfl, (Option.some.inj h).symm⟩
theorem itOk_zp {K : PySem.W.Frag} {F : Hp} {a b : Addr} {vs ws : List V} {ds es : List D} (h : F a = some (.lst vs)) (q : DqA K F vs ds) (h' : F b = some (.lst ws)) (q' : DqA K F ws es) : ItOk K F (Itz K a b) (zpD ds es) where
  go := fun F' H' i s1 s2 hi => by
    have hi : i < min ds.length es.length := by simpa [zpD] using hi
    exact ⟨vs, ws, vs[i]'(by rw [q.length]; omega), ws[i]'(by rw [q'.length]; omega), SqL.of (s2 _ _ (s1 _ _ h)), SqL.of (s2 _ _ (s1 _ _ h')), List.getElem?_eq_getElem _, List.getElem?_eq_getElem _⟩
  stop := fun F' H' i s1 s2 hi => ⟨vs, ws, SqL.of (s2 _ _ (s1 _ _ h)), SqL.of (s2 _ _ (s1 _ _ h')), by
    have hi : min ds.length es.length ≤ i := by simpa [zpD] using hi
    rw [q.length, q'.length]; omega⟩
  yld := fun F' H' i x H'' d s1 s2 hd ⟨T, y, z, ev, hT, eH, hy, hz⟩ => by
    subst ev; subst eH
    obtain ⟨dx, dy, e1, e2, rfl⟩ := zp_get hd
    have hx := hy vs (SqL.of (s2 _ _ (s1 _ _ h)))
    have hx' := hz ws (SqL.of (s2 _ _ (s1 _ _ h')))
    obtain ⟨v, h1, h2⟩ := q.get e1
    obtain ⟨v', h1', h2'⟩ := q'.get e2
    rw [hx] at h1; cases h1
    rw [hx'] at h1'; cases h1'
    have al := Alloc.new s2 hT (.tup [y, z])
    exact ⟨_, al, .tup (.inl (.inl upd_same)) (.cons (h2.m (s1.trans al.ff)) (.cons (h2'.m (s1.trans al.ff)) .nil))⟩
def dZp (f g : M Hd) : M (List D) := bnd f fun h => bnd g fun k => bnd (cl h) fun x => bnd (cl k) fun y => bnd (lft (lstD x)) fun xs => bnd (lft (lstD y)) fun ys => pur (zpD xs ys)
theorem ji_zp {f g : M Hd} {elts : List Expr} {kk : Nat} {tpos : Pos} (hg : Gl X "zip") (hm : X.mg "zip" = none) (ha : JE X Wx a f) (hb : JE X Wx b g) (hs : starEach [a, b] X.env = (false, eval a X.env) :: starEach [b] X.env := by rfl) (hs2 : starEach [b] X.env = (false, eval b X.env) :: starEach [] X.env := by rfl) (hp : ∀ q, (backTo q (starEach [b] X.env)).any (·.1) = false := by intro _; rfl) :
    JI X Wx (.Tuple elts kk tpos) (.Call (.Name "zip" p) [a, b] [] pos) (dZp f g) := PI.imp (pi_zip hg hm (pa_cons ha (pa_cons hb pa_nil hs2) hs) hs (hp _)) fun σ H R0 ⟨W, F, ρ, S, R⟩ => by
  refine ⟨W, F, ρ, S, R.bind.imp fun ρ1 h F1 H1 S1 s1 R1 v hv => ⟨W, F1, ρ1, S1, R1.bind.imp fun ρ2 k F2 H2 S2 s2 R2 u hu => ?_⟩⟩
  obtain ⟨x, ρ3, F3, S3, s3, qx, R3⟩ := R2.cl S2 (hv.sm s2)
  obtain ⟨y, ρ4, F4, S4, s4, qy, R4⟩ := R3.cl S3 (hu.sm s3)
  obtain ⟨xs, e1, R5⟩ := R4.lft
  obtain ⟨ys, e2, R6⟩ := R5.lft
  cases x with
  | lst ds =>
    cases e1
    cases y with
    | lst es =>
      cases e2
      have qx := qx.m s4
      cases qx with
      | lst h1 h2 => cases qy with
        | lst h1' h2' => exact ⟨_, _, _, _, rfl, SqL.of (S4.fh _ _ h1), SqL.of (S4.fh _ _ h1'), R6.pur S4 (Same.refl _) _ (itOk_zp h1 h2 h1' h2')⟩
    | _ => cases e2
  | _ => cases e1
end
end DL
end
section
set_option Elab.async false
set_option linter.all false
set_option maxRecDepth 100000
/-! DL5: targets, comprehensions, statements, loops. -/
namespace DL
open PySem PySem.Spec L2
open PyProof.Rows hiding St
variable [Tb0]

section
variable {X : Cx} {Wx : WX} {e a b c tg : Expr} {es : List Expr} {pos p : Pos}
theorem ji_rngN {f g h : M Hd} (hg : Gl X "range") (hm : X.mg "range" = none) (ha : JE X Wx a f) (hb : JE X Wx b g) (hc : JE X Wx c h) (hs : starEach [a, b, c] X.env = (false, eval a X.env) :: starEach [b, c] X.env := by rfl) (hs2 : starEach [b, c] X.env = (false, eval b X.env) :: starEach [c] X.env := by rfl)
    (hs3 : starEach [c] X.env = (false, eval c X.env) :: starEach [] X.env := by rfl) (hp : ∀ q, (backTo q (starEach [b, c] X.env)).any (·.1) = false := by intro _; rfl) :
    JI X Wx tg (.Call (.Name "range" p) [a, b, c] [] pos) (dRngN f g h) := PI.imp (pi_range3 hg hm (pa_cons ha (pa_cons hb (pa_cons hc pa_nil hs3) hs2) hs) hs (hp _)) fun σ H R0 ⟨W, F, ρ, S, R⟩ => by
  refine ⟨W, F, ρ, S, R.bind.imp fun ρ1 h F1 H1 S1 s1 R1 v hv => ⟨W, F1, ρ1, S1, R1.bind.imp fun ρ2 k F2 H2 S2 s2 R2 u hu => ⟨W, F2, ρ2, S2, R2.bind.imp fun ρ3 l F3 H3 S3 s3 R3 w hw => ?_⟩⟩⟩
  obtain ⟨x, q, R4⟩ := R3.res S3 (hv.sm (s2.trans s3))
  obtain ⟨y, q', R5⟩ := R4.res S3 (hu.sm s3)
  obtain ⟨z, q'', R6⟩ := R5.res S3 hw
  obtain ⟨items, ei, R7⟩ := R6.lft0
  cases x with
  | int i =>
    cases y with
    | int j =>
      cases z with
      | int c =>
        have ei : (if c = -1 ∧ SmI i ∧ SmI j then some (rngC i (-1) (i - j).toNat) else none) = some items := ei
        by_cases z : c = -1 ∧ SmI i ∧ SmI j
        · rw [if_pos z] at ei
          cases ei
          rw [q.int, q'.int, q''.int, z.1]
          exact ⟨i, j, -1, _, rfl, RgC.neg z.2.1.lo z.2.1.hi z.2.2.lo z.2.2.hi, R7.pur S3 (Same.refl _) _ (itOk_rngC i (-1) _)⟩
        · rw [if_neg z] at ei; cases ei
      | _ => cases ei
    | _ => cases ei
  | _ => cases ei
end

/-! ### targets -/
def tG (K : PySem.W.Frag) (h : D → M Unit) (us : List Nat) : TG := fun v σ H Q => ∃ W F ρ d ρ', StOk K W ρ σ F H ∧ Dq K F v d ∧ h d ρ = some (.ok (), ρ') ∧
  ∀ σ' F' H', StOk K W ρ' σ' F' H' → Same F F' → σ'.length = σ.length → (∀ i : Nat, i ∉ us → σ'[i]? = σ[i]?) → Q σ' H'
def tGs (K : PySem.W.Frag) (h : List D → M Unit) (us : List Nat) : TGs := fun vs σ H Q => ∃ W F ρ ds ρ', StOk K W ρ σ F H ∧ DqA K F vs ds ∧ h ds ρ = some (.ok (), ρ') ∧
  ∀ σ' F' H', StOk K W ρ' σ' F' H' → Same F F' → σ'.length = σ.length → (∀ i : Nat, i ∉ us → σ'[i]? = σ[i]?) → Q σ' H'
abbrev JG (X : Cx) (tg : Expr) (h : D → M Unit) (us : List Nat) : Prop := PG X tg (tG X.K h us)
abbrev JGs (X : Cx) (tgs : List Expr) (h : List D → M Unit) (us : List Nat) : Prop := PGs X tgs (tGs X.K h us)
def tgN (i : Nat) : D → M Unit := fun d ρ => some (.ok (), ρ.set i (.d d))
def tgNil : List D → M Unit := fun ds => match ds with
  | [] => pur ()
  | _ => fun _ => none
def tgCons (h : D → M Unit) (g : List D → M Unit) : List D → M Unit := fun ds => match ds with
  | d :: r => bnd (h d) fun _ => g r
  | _ => fun _ => none
def tgT (n : Nat) (g : List D → M Unit) : D → M Unit := fun d ρ => match d with
  | .tup ds => if ds.length = n then g ds ρ else none
  | _ => none
section
variable {X : Cx} {Wx : WX} {e a b c tg : Expr} {es : List Expr} {pos p : Pos}
theorem PG.imp {t t' : TG} (h : PG X tg t) (g : ∀ v σ H Q, t' v σ H Q → t v σ H Q) : PG X tg t' := ⟨fun pins s σ H v u Q I r hw => h.run pins s σ H v u Q I r (g _ _ _ _ hw)⟩
theorem PGs.imp {t t' : TGs} (h : PGs X es t) (g : ∀ v σ H Q, t' v σ H Q → t v σ H Q) : PGs X es t' := ⟨fun pins s σ H v u Q I r hw => h.run pins s σ H v u Q I r (g _ _ _ _ hw)⟩
theorem jg_name (i : Nat) {x : Str} (hN : X.N.Nodup) (hi : X.N[i]? = some x := by rfl) (hx : Loc X.env.scope x := by first | exact Or.inl rfl | exact Or.inr rfl) (hf : X.fn x = true ∨ X.env.scope.names.lookup x = some .local := by first | exact .inl rfl | exact .inr rfl) : JG X (.Name x pos) (tgN i) [i] :=
  PG.imp (pg_name hN hi hx hf) fun v σ H Q ⟨W, F, ρ, d, ρ', S, q, e, k⟩ => by
    cases e
    exact k _ _ _ (S.setD i q) (Same.refl _) (List.length_set ..) fun j hj => List.getElem?_set_ne fun z => hj (by simp [z])
theorem jgs_nil : JGs X [] tgNil [] := PGs.imp pgs_nil fun v σ H Q ⟨W, F, ρ, ds, ρ', S, q, e, k⟩ => by
  cases q with
  | nil => cases e; exact ⟨rfl, k _ _ _ S (Same.refl _) rfl fun _ _ => rfl⟩
  | cons _ _ => cases e
theorem jgs_cons {h : D → M Unit} {g : List D → M Unit} {us us' : List Nat} (h1 : JG X e h us) (h2 : JGs X es g us') (hs : (assignEach (e :: es) X.env).map (·.2) = assign e X.env :: (assignEach es X.env).map (·.2) := by rfl) : JGs X (e :: es) (tgCons h g) (us ++ us') :=
  PGs.imp (pgs_cons h1 h2 hs) fun v σ H Q hw => by
    obtain ⟨W, F, ρ, ds0, ρ', S, q, e, k⟩ := hw
    cases q with
    | nil => cases e
    | @cons v0 vs0 d ds r t =>
      have e : bnd (h d) (fun _ => g ds) ρ = some (.ok (), ρ') := e
      unfold bnd at e
      cases hh : h d ρ with
      | none => rw [hh] at e; cases e
      | some z =>
        obtain ⟨r1, ρ1⟩ := z
        rw [hh] at e
        cases r1 with
        | error _ => cases e
        | ok u =>
          exact ⟨_, _, rfl, W, F, ρ, d, ρ1, S, r, hh, fun σ1 F1 H1 S1 s1 l1 f1 => ⟨W, F1, ρ1, ds, ρ', S1, t.m s1, e, fun σ2 F2 H2 S2 s2 l2 f2 => k σ2 F2 H2 S2 (s1.trans s2) (l2.trans l1) fun i hi =>
            (f2 i fun z => hi (List.mem_append_right _ z)).trans (f1 i fun z => hi (List.mem_append_left _ z))⟩⟩
theorem jg_tup {h : List D → M Unit} {us : List Nat} {k n : Nat} (hc : X.calm = true) (g : JGs X es h us) (hn : (assignEach es X.env).length = n := by rfl) (hst : (assignEach es X.env).findIdx? (·.1) = none := by rfl) : JG X (.Tuple es k pos) (tgT n h) us :=
  PG.imp (pg_tup hc g hn hst) fun v σ H Q ⟨W, F, ρ, d, ρ', S, q, e, kk⟩ => by
    cases d with
    | tup ds =>
      cases q with
      | tup h1 h2 =>
        unfold tgT at e
        dsimp only at e
        by_cases z : ds.length = n
        · rw [if_pos z] at e
          exact ⟨_, _, rfl, S.fh.seqT h1, h2.length.trans z, W, F, ρ, ds, ρ', S, h2, e, kk⟩
        · rw [if_neg z] at e; cases e
    | _ => cases e
end

/-! ### comprehensions -/
@[simp] def wipeR (ρ : Rho) : List Nat → Rho
  | [] => ρ
  | v :: vs => (wipeR ρ vs).set v .no
@[simp] def rest (ρ ρ' : Rho) : List Nat → Rho
  | [] => ρ'
  | v :: vs => (rest ρ ρ' vs).set v (ρ.getD v .no)
@[simp] def notOwn (ρ : Rho) (vs : List Nat) : Bool := vs.all fun i => match ρ[i]? with
  | some (.o _ _) => false
  | _ => true
/-- the turns of a comprehension -/
def lcL (h : D → M Unit) (c : M Bool) (e : M D) (vs : List Nat) : List D → Rho → Option (List D × Rho)
  | [], ρ => some ([], ρ)
  | x :: xs, ρ => match h x ρ with
    | some (.ok _, ρ1) => (match c ρ1 with
      | some (.ok true, ρ2) => (match e ρ2 with
        | some (.ok y, ρ3) => (match lcL h c e vs xs (wipeR ρ3 vs) with
          | some (ys, ρ4) => some (y :: ys, ρ4)
          | none => none)
        | _ => none)
      | some (.ok false, ρ2) => lcL h c e vs xs (wipeR ρ2 vs)
      | _ => none)
    | _ => none
def dLc (f : M (List D)) (h : D → M Unit) (c : M Bool) (e : M Hd) (vs : List Nat) : M (List D) := bnd f fun items ρ =>
  if notOwn ρ vs = true ∧ items.length ≤ 16777216 then
    match lcL h c (bnd e cl) vs items (wipeR ρ vs) with
    | some (ys, ρ1) => some (.ok ys, rest ρ ρ1 vs)
    | none => none
  else none
section
variable {K : PySem.W.Frag} {Wx : WX} {W : Wd} {ρ ρ' : Rho} {σ : St} {F F' H H' : Hp}
theorem StOk.wipeS (S : StOk K W ρ σ F H) : ∀ vs : List Nat, StOk K W (wipeR ρ vs) (wipe σ vs) F H
  | [] => S
  | v :: vs => (StOk.wipeS S vs).forget v none
theorem wipeR_out {ρ : Rho} {i : Nat} : ∀ {vs : List Nat}, i ∉ vs → (wipeR ρ vs)[i]? = ρ[i]?
  | [], _ => rfl
  | v :: vs, h => by
    unfold wipeR
    rw [List.getElem?_set_ne (fun e => h (by simp [e]))]
    exact wipeR_out fun z => h (List.mem_cons_of_mem _ z)
theorem rest_len {ρ ρ' : Rho} : ∀ vs, (rest ρ ρ' vs).length = ρ'.length
  | [] => rfl
  | v :: vs => by unfold rest; rw [List.length_set, rest_len vs]
theorem rest_out {ρ ρ' : Rho} {i : Nat} : ∀ {vs : List Nat}, i ∉ vs → (rest ρ ρ' vs)[i]? = ρ'[i]?
  | [], _ => rfl
  | v :: vs, h => by
    unfold rest
    rw [List.getElem?_set_ne (fun e => h (by simp [e]))]
    exact rest_out fun z => h (List.mem_cons_of_mem _ z)
theorem rest_in {ρ ρ' : Rho} {i : Nat} (hi : i < ρ.length) (hl : ρ'.length = ρ.length) : ∀ {vs : List Nat}, i ∈ vs → (rest ρ ρ' vs)[i]? = ρ[i]?
  | v :: vs, h => by
    unfold rest
    by_cases hv : v = i
    · subst hv
      rw [List.getElem?_set_self (by rw [rest_len, hl]; exact hi), List.getD_eq_getElem?_getD, List.getElem?_eq_getElem hi]
      rfl
    · rw [List.getElem?_set_ne hv]
      rcases List.mem_cons.mp h with z | z
      · exact absurd z.symm hv
      · exact rest_in hi hl z
/-- behind a comprehension: its own names as they were -/
theorem StOk.restS {F1 H1 : Hp} {vs : List Nat} (S0 : StOk K W ρ σ F1 H1) (S : StOk K W ρ' (wipe σ vs) F H) (s : Same F1 F) (no : notOwn ρ vs = true) : StOk K W (rest ρ ρ' vs) σ F H := by
  have hl : ρ'.length = ρ.length := by rw [S.len, wipe_length, S0.len]
  have own_out : ∀ {i : Nat} {b : Option Nat} {xs : List D}, (DL.rest ρ ρ' vs)[i]? = some (.o b xs) → i ∉ vs := fun {i b xs} e hv => by
    have hi : i < ρ.length := by
      have := (List.getElem?_eq_some_iff.mp e).1
      rw [rest_len, hl] at this; exact this
    rw [rest_in hi hl hv] at e
    have := List.all_eq_true.mp no i hv
    rw [e] at this
    cases this
  refine ⟨S.cfg, by rw [rest_len, hl, S0.len], fun i sl e => ?_, fun i j a b c xs ys hij h1 h2 h3 => ?_⟩
  · by_cases hv : i ∈ vs
    · have hi : i < ρ.length := by
        have := (List.getElem?_eq_some_iff.mp e).1
        rw [rest_len, hl] at this; exact this
      rw [rest_in hi hl hv] at e
      obtain ⟨v, g1, g2⟩ := S0.sl i sl e
      refine ⟨v, g1, ?_⟩
      cases sl with
      | no => trivial
      | d x => obtain ⟨u, r, q⟩ := g2; exact ⟨u, r, q.m s⟩
      | o b xs =>
        have := List.all_eq_true.mp no i hv
        rw [e] at this
        cases this
    · rw [rest_out hv] at e
      obtain ⟨v, g1, g2⟩ := S.sl i sl e
      rw [wipe_out hv] at g1
      exact ⟨v, g1, g2⟩
  · have n1 := own_out h1
    have n2 := own_out h2
    rw [rest_out n1] at h1
    rw [rest_out n2] at h2
    rw [← wipe_out n1] at h3
    rw [← wipe_out n2]
    exact S.dis i j a b c xs ys hij h1 h2 h3
/-- a free thing written -/
theorem StOk.updFree (S : StOk K W ρ σ F H) {p : Addr} {o : HO} (f : F p = none) (n0 : W.H0 p = none) (nB : p ∉ W.B) (l : Lone ρ σ p) (ho : H p = none ∨ ∃ vs, H p = some (.lst vs)) : StOk K W ρ σ F (upd H p o) := by
  refine ⟨⟨fun a o' h => ?_, S.cfg.ff, fun a o' h1 h2 => ?_, S.cfg.n0, S.cfg.nf, fun a ha => ?_, tabs_upd S.cfg.tb ho, S.cfg.nt⟩, S.len, fun i s e => ?_, S.dis⟩
  · rw [upd_ne (fun z => by rw [z, f] at h; cases h)]; exact S.fh a o' h
  · rw [upd_ne (fun z => by rw [z, n0] at h1; cases h1)]; exact S.cfg.hh a o' h1 h2
  · rw [upd_ne (fun z => nB (by rw [← z]; exact ha))]; exact S.cfg.bb a ha
  · obtain ⟨v, g1, g2⟩ := S.sl i s e
    refine ⟨v, g1, ?_⟩
    cases s with
    | no => trivial
    | d x => exact g2
    | o b xs =>
      obtain ⟨q, rfl, ⟨us, g3, g4⟩, g5, g6⟩ := g2
      have : q ≠ p := fun z => by subst z; exact l i b xs e g1
      exact ⟨q, rfl, ⟨us, by rw [upd_ne this]; exact g3, g4⟩, g5, g6⟩
theorem wipe_of_out {σ σ' : St} {vs : List Nat} (hl : σ'.length = σ.length) (h : ∀ i : Nat, i ∉ vs → σ'[i]? = σ[i]?) : wipe σ' vs = wipe σ vs := by
  apply List.ext_getElem?
  intro i
  by_cases hv : i ∈ vs
  · have key : ∀ (τ : St), τ.length = σ.length → ∀ (ws : List Nat), i ∈ ws → (wipe τ ws)[i]? = if i < σ.length then some none else none := by
      intro τ hτ ws
      induction ws with
      | nil => intro z; cases z
      | cons w ws ih =>
        intro z
        unfold wipe
        by_cases hw : w = i
        · subst hw
          by_cases hi : w < σ.length
          · rw [List.getElem?_set_self (by rw [wipe_length, hτ]; exact hi), if_pos hi]
          · rw [if_neg hi, List.getElem?_eq_none (by rw [List.length_set, wipe_length, hτ]; omega)]
        · rw [List.getElem?_set_ne hw]
          rcases List.mem_cons.mp z with z | z
          · exact absurd z.symm hw
          · exact ih z
    rw [key σ' hl vs hv, key σ rfl vs hv]
  · rw [wipe_out hv, wipe_out hv]
    exact h i hv
abbrev W0 : WX := fun _ _ _ _ => False
/-- a comprehension's reading -/
theorem tO_lc {f : M (List D)} {h : D → M Unit} {us : List Nat} {c : M Bool} {e : M Hd} {vs : List Nat} (hus : ∀ i ∈ us, i ∈ vs) {σ : St} {H : Hp} {Q : VK} (R0 : tO K Wx (dLc f h c e vs) σ H Q) :
    tLc (tI K Wx f) (tG K h us) (tT K W0 c) (tE K W0 e) vs σ H Q := by
  obtain ⟨W, F0, ρ0, S0, R⟩ := R0
  refine ⟨W, F0, ρ0, S0, R.bind.imp fun ρ items F1 H1 S1 s1 R1 J hJ Dd hD => ?_⟩
  obtain ⟨r, ρe, er, fin⟩ := R1
  have er : (if notOwn ρ vs = true ∧ items.length ≤ 16777216 then
    match lcL h c (bnd e cl) vs items (wipeR ρ vs) with
    | some (ys, ρ1) => some (Except.ok ys, DL.rest ρ ρ1 vs)
    | none => none
  else none) = some (r, ρe) := er
  by_cases cnd : notOwn ρ vs = true ∧ items.length ≤ 16777216
  case neg => rw [if_neg cnd] at er; cases er
  rw [if_pos cnd] at er
  cases hlc : lcL h c (bnd e cl) vs items (wipeR ρ vs) with
  | none => rw [hlc] at er; cases er
  | some z =>
    obtain ⟨ys, ρz⟩ := z
    rw [hlc] at er
    cases er
    obtain ⟨⟨nH0, nB⟩, nF0, nF⟩ := S1.fresh hD
    -- the invariant
    refine ⟨fun i m Hc => m = items.length - i ∧ i ≤ items.length ∧ ∃ (acc : List V) (ds rs : List _) (ρw : Rho) (F : Hp), DqA K F acc ds ∧ ds ++ rs = ys ∧ acc.length ≤ i ∧ Same F1 F ∧ StOk K (W.prot Dd (.lst acc)) ρw (wipe σ vs) F Hc ∧
      lcL h c (bnd e cl) vs (items.drop i) ρw = some (rs, ρz), ⟨items.length, rfl, Nat.zero_le _, [], [], ys, wipeR ρ vs, F1, .nil, rfl, Nat.le_refl _, Same.refl _, ?_, hlc⟩, ?_⟩
    · have S2 := (S1.wipeS vs).updFree (o := .lst []) nF nH0 nB ((S1.wipeS vs).lone hD) (.inl hD)
      exact S2.prot upd_same nF nF0 nH0 (fun i b xs e1 e2 => ((S1.wipeS vs).lone hD) i b xs e1 e2)
    · rintro i m Hc ⟨rfl, hi, acc, ds, rs, ρw, F, qa, ed, ha, sF, Sw, el⟩
      by_cases hlt : i < items.length
      · -- a turn
        refine .inr ⟨hJ.go F Hc i sF Sw.fh hlt, ?_⟩
        have edrop : items.drop i = items[i] :: items.drop (i + 1) := List.drop_eq_getElem_cons hlt
        rw [edrop] at el
        unfold lcL at el
        cases eh : h items[i] ρw with
        | none => rw [eh] at el; cases el
        | some z1 =>
          obtain ⟨r1, ρ1⟩ := z1
          rw [eh] at el
          cases r1 with
          | error _ => cases el
          | ok u =>
            dsimp only at el
            refine ⟨fun H' => ∃ (acc : List V) (ds rs : List D) (ρw : Rho) (F : Hp), DqA K F acc ds ∧ ds ++ rs = ys ∧ acc.length ≤ i + 1 ∧ Same F1 F ∧ StOk K (W.prot Dd (.lst acc)) ρw (wipe σ vs) F H' ∧
                lcL h c (bnd e cl) vs (items.drop (i + 1)) ρw = some (rs, ρz), fun H' hN => ⟨items.length - (i + 1), by omega, rfl, hlt, hN⟩, fun x H' hy => ?_⟩
            obtain ⟨F'', al, qx⟩ := hJ.yld F Hc i x H' items[i] sF Sw.fh (List.getElem?_eq_getElem hlt) hy
            have S2 := Sw.alloc al
            refine ⟨_, F'', ρw, items[i], ρ1, S2, qx, eh, fun σ2 F2 H2 S3 s3 hl hout => ?_⟩
            have hw : wipe σ2 vs = wipe σ vs := wipe_of_out (by rw [hl, wipe_length]) fun j hj => by rw [hout j fun z => hj (hus j z), wipe_out hj]
            refine ⟨hw, ?_⟩
            have sA : Same F1 F2 := sF.trans (al.ff.trans s3)
            have qa2 : DqA K F2 acc ds := qa.m (al.ff.trans s3)
            cases ec : c ρ1 with
            | none => rw [ec] at el; cases el
            | some z2 =>
              obtain ⟨r2, ρ2⟩ := z2
              rw [ec] at el
              cases r2 with
              | error _ => cases el
              | ok b =>
                refine ⟨_, F2, ρ1, S3, .ok b, ρ2, ec, fun F3 H3 S4 s4 => ?_⟩
                cases b with
                | false =>
                  refine iteF ⟨acc, ds, rs, wipeR ρ2 vs, F3, qa2.m s4, ed, by omega, sA.trans s4, ?_, el⟩
                  rw [← hw]
                  exact S4.wipeS vs
                | true =>
                  refine iteT ?_
                  dsimp only at el
                  cases ee : bnd e cl ρ2 with
                  | none => rw [ee] at el; cases el
                  | some z3 =>
                    obtain ⟨r3, ρ3⟩ := z3
                    rw [ee] at el
                    cases r3 with
                    | error _ => cases el
                    | ok y =>
                      dsimp only at el
                      cases en : lcL h c (bnd e cl) vs (items.drop (i + 1)) (wipeR ρ3 vs) with
                      | none => rw [en] at el; cases el
                      | some z4 =>
                        obtain ⟨ys', ρ4⟩ := z4
                        rw [en] at el
                        cases el
                        have Ry : RunAt K W0 (bnd e cl) (W.prot Dd (.lst acc)) ρ2 σ2 F3 fun ρ' y' _ _ => ρ' = ρ3 ∧ y' = y := ⟨.ok y, ρ3, ee, fun _ _ _ _ => ⟨rfl, rfl⟩⟩
                        refine ⟨_, F3, ρ2, S4, Ry.bind.imp fun ρ5 hd F5 H5 S5 s5 R5 v hv => ?_⟩
                        have R5' : RunAt K W0 (bnd (cl hd) fun z => pur z) (W.prot Dd (.lst acc)) ρ5 σ2 F5 fun ρ' y' _ _ => ρ' = ρ3 ∧ y' = y := by
                          obtain ⟨r6, ρ6, e6, q6⟩ := R5
                          cases r6 with
                          | ok a => exact ⟨.ok a, ρ6, by unfold bnd; rw [e6]; rfl, q6⟩
                          | error x => exact ⟨.error x, ρ6, by unfold bnd; rw [e6], q6⟩
                        obtain ⟨y', ρ6, F6, S6, s6, qy, R6⟩ := R5'.cl S5 hv
                        obtain ⟨rfl, rfl⟩ := R6.pur S6 (Same.refl _)
                        obtain ⟨S7, eD, lD, _⟩ := S6.unprot nH0 nB
                        have fD := S6.protF nF0
                        refine ⟨acc, eD, by have := sizeLine_eq; omega, acc ++ [v], ds ++ [y'], ys', wipeR ρ6 vs, F6, (qa2.m (s4.trans (s5.trans s6))).append (.cons qy .nil), by rw [List.append_assoc]; exact ed, by rw [List.length_append]; simp; omega, sA.trans (s4.trans (s5.trans s6)), ?_, en⟩
                        rw [← hw]
                        have S8 := (S7.wipeS vs).updFree (o := .lst (acc ++ [v])) fD nH0 nB (fun j b xs e1 e2 => by
                          have n1 : j ∉ vs := fun hj => by
                            have := (List.getElem?_eq_some_iff.mp e1).1
                            have key : ∀ (ws : List Nat) (τ : Rho), j ∈ ws → ∀ b xs, (wipeR τ ws)[j]? ≠ some (.o b xs) := by
                              intro ws
                              induction ws with
                              | nil => intro τ z; cases z
                              | cons w ws ih =>
                                intro τ z b xs
                                unfold wipeR
                                by_cases hw : w = j
                                · subst hw
                                  intro q
                                  have hl := (List.getElem?_eq_some_iff.mp q).1
                                  rw [List.length_set] at hl
                                  rw [List.getElem?_set_self hl] at q
                                  cases q
                                · rw [List.getElem?_set_ne hw]
                                  rcases List.mem_cons.mp z with z | z
                                  · exact absurd z.symm hw
                                  · exact ih τ z b xs
                            exact key vs ρ6 hj b xs e1
                          rw [wipeR_out n1] at e1
                          rw [wipe_out n1] at e2
                          exact lD j b xs e1 e2) (.inr ⟨_, eD⟩)
                        exact S8.prot upd_same fD nF0 nH0 (fun j b xs e1 e2 => by
                          obtain ⟨a', h1, ⟨vs', h2, _⟩, h4, h5⟩ := S8.own e1
                          rw [h1] at e2
                          have ea : a' = Dd := by injection e2 with z; injection z with z; injection z
                          subst ea
                          obtain ⟨a2, h1', ⟨vs2, h2', _⟩, _⟩ := (S7.wipeS vs).own e1
                          rw [h1] at h1'
                          have ea : a' = a2 := by injection h1' with z; injection z with z; injection z
                          subst ea
                          have n1 : j ∉ vs := fun hj => by
                            rw [hw, show wipe σ vs = wipe σ vs from rfl] at h1
                            have key : ∀ (ws : List Nat) (τ : St), j ∈ ws → ∀ x, (wipe τ ws)[j]? ≠ some (some x) := fun ws τ hj x q => (wipe_some q).2 hj
                            exact key vs σ hj _ h1
                          rw [wipeR_out n1] at e1
                          rw [wipe_out n1] at h1
                          exact lD j b xs e1 h1)
      · have e1 : i = items.length := by omega
        subst e1
        rw [List.drop_length] at el
        cases el
        rw [List.append_nil] at ed
        subst ed
        obtain ⟨S7, eD, lD, _⟩ := Sw.unprot nH0 nB
        have fD := Sw.protF nF0
        refine .inl ⟨hJ.stop F Hc _ sF Sw.fh (Nat.le_refl _), ?_⟩
        have S8 := S1.restS S7 sF cnd.1
        refine fin F Hc S8 sF Dd ⟨⟨acc, eD, qa⟩, fD, nH0, nB⟩ fun j b xs e1 e2 => ?_
        have n1 : j ∉ vs := fun hj => by
          have hj2 : j < ρ.length := by
            have := (List.getElem?_eq_some_iff.mp e1).1
            rw [rest_len] at this
            have h2 := S7.len
            rw [wipe_length, ← S1.len] at h2
            omega
          have h2 : ρz.length = ρ.length := by rw [S7.len, wipe_length, S1.len]
          rw [rest_in hj2 h2 hj] at e1
          have := List.all_eq_true.mp cnd.1 j hj
          rw [e1] at this
          cases this
        rw [rest_out n1] at e1
        rw [← wipe_out n1 (σ := σ)] at e2
        exact lD j b xs e1 e2
end
end DL
end
section
set_option Elab.async false
set_option linter.all false
set_option maxRecDepth 100000
/-! DL6: comprehensions as expressions, statements, loops. -/
namespace DL
open PySem PySem.Spec L2
open PyProof.Rows hiding St
variable [Tb0]

inductive Fl where
  | nx | rt (d : D) | ro (xs : List D) | bk | ct | er (e : Er)
abbrev MS := Rho → Option (Fl × Rho)

section
variable {K : PySem.W.Frag} {Wx : WX} {W : Wd} {ρ ρ' : Rho} {σ : St} {F F' H H' : Hp}
def Fin (K : PySem.W.Frag) (Wx : WX) (W : Wd) (F : Hp) (D : Ends) (ρ' : Rho) : Fl → Prop
  | .nx => ∀ σ' F' H', StOk K W ρ' σ' F' H' → Same F F' → D.nx σ' H'
  | .rt d => ∀ v σ' F' H', StOk K W ρ' σ' F' H' → Same F F' → Dq K F' v d → D.rt v H'
  | .ro xs => ∀ a σ' F' H', StOk K W ρ' σ' F' H' → Same F F' → OwnAt K W F' H' none a xs → D.rt (.ref a) H'
  | .bk => ∀ σ' F' H', StOk K W ρ' σ' F' H' → Same F F' → D.bk σ' H'
  | .ct => ∀ σ' F' H', StOk K W ρ' σ' F' H' → Same F F' → D.ct σ' H'
  | .er e => ∀ σ' F' H' cls dd, StOk K W ρ' σ' F' H' → Same F F' → ErOk K F' H' e cls dd → Wx cls dd σ' H'
theorem Fin.sm {D : Ends} {fl : Fl} (h : Fin K Wx W F D ρ' fl) (s : Same F F') : Fin K Wx W F' D ρ' fl := by
  cases fl with
  | nx => exact fun σ' F2 H' S sm => h σ' F2 H' S (s.trans sm)
  | rt d => exact fun v σ' F2 H' S sm => h v σ' F2 H' S (s.trans sm)
  | ro xs => exact fun a σ' F2 H' S sm => h a σ' F2 H' S (s.trans sm)
  | bk => exact fun σ' F2 H' S sm => h σ' F2 H' S (s.trans sm)
  | ct => exact fun σ' F2 H' S sm => h σ' F2 H' S (s.trans sm)
  | er e => exact fun σ' F2 H' c d S sm => h σ' F2 H' c d S (s.trans sm)
def SAt (K : PySem.W.Frag) (Wx : WX) (g : MS) (W : Wd) (ρ : Rho) (F : Hp) (D : Ends) : Prop := ∃ fl ρ', g ρ = some (fl, ρ') ∧ Fin K Wx W F D ρ' fl
theorem SAt.sm {g : MS} {D : Ends} (h : SAt K Wx g W ρ F D) (s : Same F F') : SAt K Wx g W ρ F' D := let ⟨fl, ρ', e, q⟩ := h; ⟨fl, ρ', e, q.sm s⟩
def tS (K : PySem.W.Frag) (Wx : WX) (g : MS) : TS := fun D σ H => ∃ W F ρ, StOk K W ρ σ F H ∧ SAt K Wx g W ρ F D
/-- an expression, then -/
def ex {α : Type} (m : M α) (k : α → MS) : MS := fun ρ => match m ρ with
  | some (.ok a, ρ1) => k a ρ1
  | some (.error e, ρ1) => some (.er e, ρ1)
  | none => none
theorem SAt.ex {α : Type} {m : M α} {k : α → MS} {D : Ends} (h : SAt K Wx (ex m k) W ρ F D) : RunAt K Wx m W ρ σ F fun ρ1 a F1 _ => SAt K Wx (k a) W ρ1 F1 D := by
  obtain ⟨fl, ρ', e, q⟩ := h
  unfold DL.ex at e
  cases hm : m ρ with
  | none => rw [hm] at e; cases e
  | some z =>
    obtain ⟨r, ρ1⟩ := z
    rw [hm] at e
    cases r with
    | ok a => exact ⟨.ok a, ρ1, hm, fun F1 H1 S1 s1 => ⟨fl, ρ', e, q.sm s1⟩⟩
    | error x =>
      cases e
      exact ⟨.error x, _, hm, fun F1 H1 c d S1 s1 er => q σ F1 H1 c d S1 s1 er⟩
/-! ### the small statements -/
def sSetD (i : Nat) (f : M Hd) : MS := ex (bnd f cl) fun x ρ => some (.nx, ρ.set i (.d x))
def sSetO (i : Nat) (f : M (List D)) : MS := ex f fun xs ρ => some (.nx, ρ.set i (.o none xs))
def sRet (f : M Hd) : MS := ex (bnd f cl) fun x ρ => some (.rt x, ρ)
def sRetO (f : M (List D)) : MS := ex f fun xs ρ => some (.ro xs, ρ)
def sRetN : MS := fun ρ => some (.rt .non, ρ)
def sExpr (f : M Hd) : MS := ex f fun _ ρ => some (.nx, ρ)
def sIf (c : M Bool) (a b : MS) : MS := ex c fun t => if t = true then a else b
def sSeq (a b : MS) : MS := fun ρ => match a ρ with
  | some (.nx, ρ1) => b ρ1
  | r => r
def sNil : MS := fun ρ => some (.nx, ρ)
def sBrk : MS := fun ρ => some (.bk, ρ)
def sCnt : MS := fun ρ => some (.ct, ρ)
def sNever : MS := fun _ => none
theorem RunAt.bcl {f : M Hd} {κ : Rho → D → Hp → Hp → Prop} (R : RunAt K Wx (bnd f DL.cl) W ρ σ F κ) : RunAt K Wx f W ρ σ F fun ρ1 h F1 H1 => StOk K W ρ1 σ F1 H1 → ∀ v, HdOk K F1 σ h v → ∃ x ρ2 F2, StOk K W ρ2 σ F2 H1 ∧ Same F1 F2 ∧ Dq K F2 v x ∧ κ ρ2 x F2 H1 :=
  R.bind.imp fun ρ1 h F1 H1 S1 s1 R1 _ v hv => by
    have R2 : RunAt K Wx (bnd (DL.cl h) fun z => DL.pur z) W ρ1 σ F1 κ := by
      obtain ⟨r6, ρ6, e6, q6⟩ := R1
      cases r6 with
      | ok a => exact ⟨.ok a, ρ6, by unfold bnd; rw [e6]; rfl, q6⟩
      | error x => exact ⟨.error x, ρ6, by unfold bnd; rw [e6], q6⟩
    obtain ⟨x, ρ2, F2, S2, s2, q, R3⟩ := R2.cl S1 hv
    exact ⟨x, ρ2, F2, S2, s2, q, R3.pur S2 (Same.refl _)⟩
theorem tE_fz {f : M (List D)} {H : Hp} {Q : VK} (h : tE K Wx (dFz f) σ H Q) : tO K Wx f σ H Q := by
  obtain ⟨W, F, ρ, S, R⟩ := h
  exact ⟨W, F, ρ, S, R.bind.imp fun ρ1 xs F1 H1 S1 s1 R1 a ⟨⟨vs, h1, h2⟩, h3, h4⟩ l => by
    have sm := same_freeze S1.fh h1
    exact R1.pur (S1.freezeA h1 h4.1 l) sm (.ref a) (.lst upd_same (h2.m sm))⟩
theorem tS_setD {i : Nat} {f : M Hd} {D : Ends} (h : tS K Wx (sSetD i f) D σ H) : tAsg (tE K Wx f) (gName i) D σ H := by
  obtain ⟨W, F, ρ, S, R⟩ := h
  refine ⟨W, F, ρ, S, (SAt.ex (σ := σ) R).bcl.imp fun ρ1 h F1 H1 S1 s1 k v hv => ?_⟩
  obtain ⟨x, ρ2, F2, S2, s2, q, fl, ρ', e, fin⟩ := k S1 v hv
  cases e
  exact fin _ _ _ (S2.setD i q) (Same.refl _)
theorem tS_setO {i : Nat} {f : M (List D)} {D : Ends} (h : tS K Wx (sSetO i f) D σ H) : tAsg (tO K Wx f) (gName i) D σ H := by
  obtain ⟨W, F, ρ, S, R⟩ := h
  refine ⟨W, F, ρ, S, (SAt.ex (σ := σ) R).imp fun ρ1 xs F1 H1 S1 s1 k a q l => ?_⟩
  obtain ⟨fl, ρ', e, fin⟩ := k
  cases e
  exact fin _ _ _ (S1.setO i q l) (Same.refl _)
theorem tS_setDfz {i : Nat} {f : M (List D)} {D : Ends} (h : tS K Wx (sSetD i (dFz f)) D σ H) : tAsg (tO K Wx f) (gName i) D σ H := tE_fz (Q := fun v H1 => gName i v σ H1 D.nx) (tS_setD h)
theorem tS_ret {f : M Hd} {D : Ends} (h : tS K Wx (sRet f) D σ H) : tRet (tE K Wx f) D σ H := by
  obtain ⟨W, F, ρ, S, R⟩ := h
  refine ⟨W, F, ρ, S, (SAt.ex (σ := σ) R).bcl.imp fun ρ1 h F1 H1 S1 s1 k v hv => ?_⟩
  obtain ⟨x, ρ2, F2, S2, s2, q, fl, ρ', e, fin⟩ := k S1 v hv
  cases e
  exact fin _ _ _ _ S2 (Same.refl _) q
theorem tS_retO {f : M (List D)} {D : Ends} (h : tS K Wx (sRetO f) D σ H) : tRet (tO K Wx f) D σ H := by
  obtain ⟨W, F, ρ, S, R⟩ := h
  refine ⟨W, F, ρ, S, (SAt.ex (σ := σ) R).imp fun ρ1 xs F1 H1 S1 s1 k a q l => ?_⟩
  obtain ⟨fl, ρ', e, fin⟩ := k
  cases e
  exact fin _ _ _ _ S1 (Same.refl _) q
end

abbrev JS (X : Cx) (Wx : WX) (st : Stmt) (g : MS) : Prop := PS X st (tS X.K Wx g)
abbrev JSs (X : Cx) (Wx : WX) (st : List Stmt) (g : MS) : Prop := PSs X st (tS X.K Wx g)
abbrev JTs (X : Cx) (Wx : WX) (ifs : List Expr) (f : M Bool) : Prop := PTs X ifs (tT X.K Wx f)
section
variable {X : Cx} {Wx : WX} {e a b c tg : Expr} {es : List Expr} {pos p : Pos} {st : Stmt} {sts body : List Stmt}
theorem PS.imp {t t' : TS} (h : PS X st t) (g : ∀ D σ H, t' D σ H → t D σ H) : PS X st t' := ⟨fun pins s σ H D I hw => h.run pins s σ H D I (g _ _ _ hw)⟩
theorem PSs.imp {t t' : TS} (h : PSs X sts t) (g : ∀ D σ H, t' D σ H → t D σ H) : PSs X sts t' := ⟨fun pins s σ H D I hw => h.run pins s σ H D I (g _ _ _ hw)⟩
theorem PTs.imp {t t' : TT} (h : PTs X es t) (g : ∀ σ H Q, t' σ H Q → t σ H Q) : PTs X es t' := ⟨fun pins s σ H Q I hw => h.run pins s σ H Q I (g _ _ _ hw)⟩
/-! ### comprehensions -/
def dYes : M Bool := pur true
theorem jts_nil : JTs X Wx [] dYes := PTs.imp pts_nil fun σ H Q ⟨W, F, ρ, S, R⟩ => R.pur S (Same.refl _)
theorem jts_one {f : M Bool} (h : JT X Wx c f) : JTs X Wx [c] f := pts_one h
theorem jo_lc {elt iter : Expr} {ifs : List Expr} {scope : Scope} (own : List (Str × Nat)) {f : M (List D)} {h : D → M Unit} {us : List Nat} {t : M Bool} {g : M Hd} (hc : X.calm = true) (hN : X.N.Nodup) (hi : JI X Wx tg iter f) (ok : BlkOk X.N X.env.scope scope own)
    (hg : ∀ (s : Shared) (H : Hp) (C : Addr) (cl : List (Str × Addr)) (fp : List Addr), JG (X.blk s H scope (compEnvC scope cl C X.env) fp) tg h us) (ht : ∀ (s : Shared) (H : Hp) (C : Addr) (cl : List (Str × Addr)) (fp : List Addr), JTs (X.blk s H scope (compEnvC scope cl C X.env) fp) W0 ifs t)
    (he : ∀ (s : Shared) (H : Hp) (C : Addr) (cl : List (Str × Addr)) (fp : List Addr), JE (X.blk s H scope (compEnvC scope cl C X.env) fp) W0 elt g) (hus : ∀ i ∈ us, i ∈ own.map (·.2) := by decide) (hs : ∀ x, foldedSetIterable iter X.env x = pure x := by intro _; rfl) :
    JO X Wx (.ListComp elt [⟨tg, iter, ifs, 0⟩] scope pos) (dLc f h t g (own.map (·.2))) :=
  PE.imp (pe_lc hc hN hi ok hg ht he hs) fun σ H Q h => tO_lc hus h
/-- y = [..], y a local name -/
theorem js_setLcO {i : Nat} {y : Str} {py spos : Pos} {elt iter : Expr} {ifs : List Expr} {scope : Scope} (own : List (Str × Nat)) {f : M (List D)} {h : D → M Unit} {us : List Nat} {t : M Bool} {g : M Hd} (hc : X.calm = true) (hN : X.N.Nodup) (hy : X.N[i]? = some y) (hyl : X.env.scope.names.lookup y = some .local)
    (hsw : swapsWith (.ListComp elt [⟨tg, iter, ifs, 0⟩] scope pos) (some (.Name y py)) spos.line X.env = pure true) (hi : JI X Wx tg iter f) (ok : BlkOk X.N X.env.scope scope own)
    (hg : ∀ (s : Shared) (H : Hp) (C : Addr) (cl : List (Str × Addr)) (fp : List Addr), JG (X.blk s H scope (compEnvC scope cl C X.env) fp) tg h us) (ht : ∀ (s : Shared) (H : Hp) (C : Addr) (cl : List (Str × Addr)) (fp : List Addr), JTs (X.blk s H scope (compEnvC scope cl C X.env) fp) W0 ifs t)
    (he : ∀ (s : Shared) (H : Hp) (C : Addr) (cl : List (Str × Addr)) (fp : List Addr), JE (X.blk s H scope (compEnvC scope cl C X.env) fp) W0 elt g) (hus : ∀ i ∈ us, i ∈ own.map (·.2) := by decide) (hs : ∀ x, foldedSetIterable iter X.env x = pure x := by intro _; rfl) :
    JS X Wx (.Assign [.Name y py] (.ListComp elt [⟨tg, iter, ifs, 0⟩] scope pos) spos) (sSetO i (dLc f h t g (own.map (·.2)))) :=
  PS.imp (ps_setLc hc hN hy hyl hsw hi ok hg ht he hs) fun D σ H hh => tO_lc hus (tS_setO hh)
theorem js_setLcD {i : Nat} {y : Str} {py spos : Pos} {elt iter : Expr} {ifs : List Expr} {scope : Scope} (own : List (Str × Nat)) {f : M (List D)} {h : D → M Unit} {us : List Nat} {t : M Bool} {g : M Hd} (hc : X.calm = true) (hN : X.N.Nodup) (hy : X.N[i]? = some y) (hyl : X.env.scope.names.lookup y = some .local)
    (hsw : swapsWith (.ListComp elt [⟨tg, iter, ifs, 0⟩] scope pos) (some (.Name y py)) spos.line X.env = pure true) (hi : JI X Wx tg iter f) (ok : BlkOk X.N X.env.scope scope own)
    (hg : ∀ (s : Shared) (H : Hp) (C : Addr) (cl : List (Str × Addr)) (fp : List Addr), JG (X.blk s H scope (compEnvC scope cl C X.env) fp) tg h us) (ht : ∀ (s : Shared) (H : Hp) (C : Addr) (cl : List (Str × Addr)) (fp : List Addr), JTs (X.blk s H scope (compEnvC scope cl C X.env) fp) W0 ifs t)
    (he : ∀ (s : Shared) (H : Hp) (C : Addr) (cl : List (Str × Addr)) (fp : List Addr), JE (X.blk s H scope (compEnvC scope cl C X.env) fp) W0 elt g) (hus : ∀ i ∈ us, i ∈ own.map (·.2) := by decide) (hs : ∀ x, foldedSetIterable iter X.env x = pure x := by intro _; rfl) :
    JS X Wx (.Assign [.Name y py] (.ListComp elt [⟨tg, iter, ifs, 0⟩] scope pos) spos) (sSetD i (dFz (dLc f h t g (own.map (·.2))))) :=
  PS.imp (ps_setLc hc hN hy hyl hsw hi ok hg ht he hs) fun D σ H hh => tO_lc hus (tS_setDfz hh)
/-! ### statements -/
theorem js_setD {i : Nat} {x : Str} {pos' : Pos} {f : M Hd} (hN : X.N.Nodup) (he : JE X Wx e f) (hi : X.N[i]? = some x := by rfl) (hx : Loc X.env.scope x := by first | exact Or.inl rfl | exact Or.inr rfl) (hs : swapsWith e (some (.Name x pos')) pos.line X.env = pure false := by rfl) (hf : X.fn x = true ∨ X.env.scope.names.lookup x = some .local := by first | exact .inl rfl | exact .inr rfl) :
    JS X Wx (.Assign [.Name x pos'] e pos) (sSetD i f) := PS.imp (ps_set hN hi hx he hs hf) fun _ _ _ h => tS_setD h
theorem js_setO {i : Nat} {x : Str} {pos' : Pos} {f : M (List D)} (hN : X.N.Nodup) (he : JO X Wx e f) (hi : X.N[i]? = some x := by rfl) (hx : Loc X.env.scope x := by first | exact Or.inl rfl | exact Or.inr rfl) (hs : swapsWith e (some (.Name x pos')) pos.line X.env = pure false := by rfl) (hf : X.fn x = true ∨ X.env.scope.names.lookup x = some .local := by first | exact .inl rfl | exact .inr rfl) :
    JS X Wx (.Assign [.Name x pos'] e pos) (sSetO i f) := PS.imp (ps_set hN hi hx he hs hf) fun _ _ _ h => tS_setO h
theorem js_ret {f : M Hd} (he : JE X Wx e f) : JS X Wx (.Return (some e) pos) (sRet f) := PS.imp (ps_ret he) fun _ _ _ h => tS_ret h
theorem js_retO {f : M (List D)} (he : JO X Wx e f) : JS X Wx (.Return (some e) pos) (sRetO f) := PS.imp (ps_ret he) fun _ _ _ h => tS_retO h
theorem js_retN : JS X Wx (.Return none pos) sRetN := PS.imp ps_retN fun D σ H ⟨W, F, ρ, S, fl, ρ', e, fin⟩ => by
  cases e
  exact fin _ _ _ _ S (Same.refl _) .non
theorem js_expr {f : M Hd} (he : JE X Wx e f) (hs : swapsWith e none pos.line X.env = pure false := by rfl) : JS X Wx (.Expr e pos) (sExpr f) := PS.imp (ps_expr he hs) fun D σ H ⟨W, F, ρ, S, R⟩ =>
  ⟨W, F, ρ, S, (SAt.ex (σ := σ) R).imp fun ρ1 h F1 H1 S1 s1 ⟨fl, ρ', e, fin⟩ v hv => by
    cases e
    exact fin _ _ _ S1 (Same.refl _)⟩
theorem js_pass : JS X Wx (.Pass pos) sNil := PS.imp ps_pass fun D σ H ⟨W, F, ρ, S, fl, ρ', e, fin⟩ => by
  cases e
  exact fin _ _ _ S (Same.refl _)
theorem js_brk : JS X Wx (.Break pos) sBrk := PS.imp ps_break fun D σ H ⟨W, F, ρ, S, fl, ρ', e, fin⟩ => by
  cases e
  exact fin _ _ _ S (Same.refl _)
theorem js_cnt : JS X Wx (.Continue pos) sCnt := PS.imp ps_continue fun D σ H ⟨W, F, ρ, S, fl, ρ', e, fin⟩ => by
  cases e
  exact fin _ _ _ S (Same.refl _)
theorem js_never : JS X Wx st sNever := PS.imp ps_never fun D σ H ⟨W, F, ρ, S, fl, ρ', e, fin⟩ => by cases e
theorem jss_nil : JSs X Wx [] sNil := PSs.imp pss_nil fun D σ H ⟨W, F, ρ, S, fl, ρ', e, fin⟩ => by
  cases e
  exact fin _ _ _ S (Same.refl _)
theorem jss_one {g : MS} (h : JS X Wx st g) : JSs X Wx [st] g := pss_one h
theorem jss_cons {g k : MS} (h : JS X Wx st g) (h2 : JSs X Wx sts k) : JSs X Wx (st :: sts) (sSeq g k) := PSs.imp (pss_cons h h2) fun D σ H ⟨W, F, ρ, S, fl, ρ', e, fin⟩ => by
  unfold sSeq at e
  cases hg : g ρ with
  | none => rw [hg] at e; cases e
  | some z =>
    obtain ⟨f1, ρ1⟩ := z
    rw [hg] at e
    refine ⟨W, F, ρ, S, f1, ρ1, hg, ?_⟩
    cases f1 with
    | nx => exact fun σ' F' H' S' s' => ⟨W, F', ρ1, S', fl, ρ', e, fin.sm s'⟩
    | rt d => cases e; exact fin
    | ro d => cases e; exact fin
    | bk => cases e; exact fin
    | ct => cases e; exact fin
    | er x => cases e; exact fin
theorem js_if {t : M Bool} {g k : MS} {sb : List Stmt} (hc : JT X Wx c t) (ha : JSs X Wx sts g) (hb : JSs X Wx sb k) : JS X Wx (.If c sts sb pos) (sIf t g k) := PS.imp (ps_if hc ha hb) fun D σ H ⟨W, F, ρ, S, R⟩ =>
  ⟨W, F, ρ, S, (SAt.ex (σ := σ) R).imp fun ρ1 h F1 H1 S1 s1 q => by
    cases h with
    | true => exact iteT ⟨W, F1, ρ1, S1, q⟩
    | false => exact iteF ⟨W, F1, ρ1, S1, q⟩⟩
/-- a tuple taken apart, any value stored by targets -/
def sAsgT (h : D → M Unit) (f : M Hd) : MS := ex (bnd f cl) fun x => ex (h x) fun _ ρ => some (.nx, ρ)
theorem js_asgT {h : D → M Unit} {us : List Nat} {f : M Hd} (he : JE X Wx e f) (hg : JG X tg h us) (hs : swapsWithSole [tg] e pos.line X.env = pure false := by rfl) (hw : swappedStores [tg] e X.env = pure none := by rfl)
    (h1 : (assignEach [tg] X.env).map (·.2) = [assign tg X.env] := by rfl) (hok : ∀ d ρ x ρ', h d ρ ≠ some (.error x, ρ')) : JS X Wx (.Assign [tg] e pos) (sAsgT h f) := PS.imp (ps_asg he hg hs hw h1) fun D σ H ⟨W, F, ρ, S, R⟩ => by
  refine ⟨W, F, ρ, S, (SAt.ex (σ := σ) R).bcl.imp fun ρ1 hd F1 H1 S1 s1 k v hv => ?_⟩
  obtain ⟨x, ρ2, F2, S2, s2, q, fl, ρ', e, fin⟩ := k S1 v hv
  unfold DL.ex at e
  cases hh : h x ρ2 with
  | none => rw [hh] at e; cases e
  | some z =>
    obtain ⟨r, ρ3⟩ := z
    rw [hh] at e
    cases r with
    | error y => exact absurd hh (hok _ _ _ _)
    | ok u =>
      cases e
      exact ⟨W, F2, ρ2, x, _, S2, q, hh, fun σ' F' H' S' s' _ _ => fin _ _ _ S' s'⟩

/-! ### loops -/
def wh (c : M Bool) (b : MS) : Nat → MS
  | 0 => fun _ => none
  | n + 1 => fun ρ => match c ρ with
    | some (.ok true, ρ1) => (match b ρ1 with
      | some (.nx, ρ2) => wh c b n ρ2
      | some (.ct, ρ2) => wh c b n ρ2
      | some (.bk, ρ2) => some (.nx, ρ2)
      | r => r)
    | some (.ok false, ρ1) => some (.nx, ρ1)
    | some (.error e, ρ1) => some (.er e, ρ1)
    | none => none
theorem js_while {t : M Bool} {g : MS} (n : Nat) (hp : PassesOwn (model X.prog X.w) X.A X.env X.xe) (hc : JT X Wx c t) (hb : JSs X Wx body g) : JS X Wx (.While c body [] pos) (wh t g n) := PS.imp (ps_while hp hc hb) fun D σ H ⟨W, F0, ρ0, S0, fl, ρe, e0, fin⟩ => by
  refine ⟨fun m σ H => ∃ F ρ, StOk X.K W ρ σ F H ∧ Same F0 F ∧ wh t g m ρ = some (fl, ρe), ⟨n, F0, ρ0, S0, Same.refl _, e0⟩, ?_⟩
  rintro m σ H ⟨F, ρ, S, s, e⟩
  cases m with
  | zero => cases e
  | succ m =>
    unfold wh at e
    cases ht : t ρ with
    | none => rw [ht] at e; cases e
    | some z =>
      obtain ⟨r, ρ1⟩ := z
      rw [ht] at e
      refine ⟨W, F, ρ, S, r, ρ1, ht, ?_⟩
      cases r with
      | error x =>
        cases e
        exact fun F1 H1 c d S1 s1 er => fin σ F1 H1 c d S1 (s.trans s1) er
      | ok k =>
        intro F1 H1 S1 s1
        cases k with
        | false =>
          cases e
          exact iteF (fin _ _ _ S1 (s.trans s1))
        | true =>
          refine iteT ⟨fun σ' H' => ∃ F ρ, StOk X.K W ρ σ' F H' ∧ Same F0 F ∧ wh t g m ρ = some (fl, ρe), fun σ' H' q => ⟨m, Nat.lt_succ_self _, q⟩, ?_⟩
          dsimp only at e
          cases hg : g ρ1 with
          | none => rw [hg] at e; cases e
          | some z =>
            obtain ⟨f1, ρ2⟩ := z
            rw [hg] at e
            refine ⟨W, F1, ρ1, S1, f1, ρ2, hg, ?_⟩
            cases f1 with
            | nx => exact fun σ' F' H' S' s' => ⟨F', ρ2, S', s.trans (s1.trans s'), e⟩
            | ct => exact fun σ' F' H' S' s' => ⟨F', ρ2, S', s.trans (s1.trans s'), e⟩
            | bk => cases e; exact fun σ' F' H' S' s' => fin _ _ _ S' (s.trans (s1.trans s'))
            | rt d => cases e; exact fun v σ' F' H' S' s' => fin v _ _ _ S' (s.trans (s1.trans s'))
            | ro d => cases e; exact fun v σ' F' H' S' s' => fin v _ _ _ S' (s.trans (s1.trans s'))
            | er x => cases e; exact fun σ' F' H' c d S' s' => fin _ _ _ c d S' (s.trans (s1.trans s'))
def fo (h : D → M Unit) (b : MS) : List D → MS
  | [] => fun ρ => some (.nx, ρ)
  | x :: xs => fun ρ => match h x ρ with
    | some (.ok _, ρ1) => (match b ρ1 with
      | some (.nx, ρ2) => fo h b xs ρ2
      | some (.ct, ρ2) => fo h b xs ρ2
      | some (.bk, ρ2) => some (.nx, ρ2)
      | r => r)
    | _ => none
def sFor (f : M (List D)) (h : D → M Unit) (b : MS) : MS := ex f fun items => fo h b items
theorem js_for {iter : Expr} {f : M (List D)} {h : D → M Unit} {us : List Nat} {g : MS} (hp : PassesOwn (model X.prog X.w) X.A X.env X.xe) (hc : X.calm = true) (hi : JI X Wx tg iter f) (hg : JG X tg h us) (hb : JSs X Wx body g) (hs : ∀ x, foldedSetIterable iter X.env x = pure x := by intro _; rfl) :
    JS X Wx (.For tg iter body [] pos) (sFor f h g) := PS.imp (ps_for hp hc hi hg hb hs) fun D σ0 H0 ⟨W, F0, ρ0, S0, R⟩ => by
  refine ⟨W, F0, ρ0, S0, (SAt.ex (σ := σ0) R).imp fun ρ items F1 H1 S1 s1 ⟨fl, ρe, e0, fin⟩ J hJ => ?_⟩
  refine ⟨fun i m σ H => m = items.length - i ∧ i ≤ items.length ∧ ∃ F ρ, StOk X.K W ρ σ F H ∧ Same F1 F ∧ fo h g (items.drop i) ρ = some (fl, ρe), ⟨items.length, rfl, Nat.zero_le _, F1, ρ, S1, Same.refl _, e0⟩, ?_⟩
  rintro i m σ H ⟨rfl, hi, F, ρ, S, s, e⟩
  by_cases hlt : i < items.length
  · refine .inr ⟨hJ.go F H i s S.fh hlt, ?_⟩
    have edrop : items.drop i = items[i] :: items.drop (i + 1) := List.drop_eq_getElem_cons hlt
    rw [edrop] at e
    unfold fo at e
    cases eh : h items[i] ρ with
    | none => rw [eh] at e; cases e
    | some z1 =>
      obtain ⟨r1, ρ1⟩ := z1
      rw [eh] at e
      cases r1 with
      | error _ => cases e
      | ok u =>
        refine ⟨fun σ' H' => ∃ F ρ, StOk X.K W ρ σ' F H' ∧ Same F1 F ∧ fo h g (items.drop (i + 1)) ρ = some (fl, ρe), fun σ' H' q => ⟨items.length - (i + 1), by omega, rfl, hlt, q⟩, fun x H' hy => ?_⟩
        obtain ⟨F'', al, qx⟩ := hJ.yld F H i x H' items[i] s S.fh (List.getElem?_eq_getElem hlt) hy
        refine ⟨W, F'', ρ, items[i], ρ1, S.alloc al, qx, eh, fun σ2 F2 H2 S2 s2 _ _ => ?_⟩
        have sA : Same F1 F2 := s.trans (al.ff.trans s2)
        dsimp only at e
        cases hg : g ρ1 with
        | none => rw [hg] at e; cases e
        | some z =>
          obtain ⟨f1, ρ2⟩ := z
          rw [hg] at e
          refine ⟨W, F2, ρ1, S2, f1, ρ2, hg, ?_⟩
          cases f1 with
          | nx => exact fun σ' F' H' S' s' => ⟨F', ρ2, S', sA.trans s', e⟩
          | ct => exact fun σ' F' H' S' s' => ⟨F', ρ2, S', sA.trans s', e⟩
          | bk => cases e; exact fun σ' F' H' S' s' => fin _ _ _ S' (sA.trans s')
          | rt d => cases e; exact fun v σ' F' H' S' s' => fin v _ _ _ S' (sA.trans s')
          | ro d => cases e; exact fun v σ' F' H' S' s' => fin v _ _ _ S' (sA.trans s')
          | er x => cases e; exact fun σ' F' H' c d S' s' => fin _ _ _ c d S' (sA.trans s')
  · have e1 : i = items.length := by omega
    subst e1
    rw [List.drop_length] at e
    cases e
    exact .inl ⟨hJ.stop F H _ s S.fh (Nat.le_refl _), fin _ _ _ S s⟩
end
end DL
end
section
set_option Elab.async false
set_option linter.all false
set_option maxRecDepth 100000
/-! DL7: what a def promises by values; calls; a def's body. -/
namespace DL
open PySem PySem.Spec L2
open PyProof.Rows hiding St
variable [Tb0]

/-- an argument: data, or a list handed in to be changed -/
inductive Av where
  | d (x : D)
  | o (xs : List D)
/-- what comes back -/
inductive Rt where
  | d (x : D)
  | o (xs : List D)
/-- a def by values: from its arguments to its end and what the lists handed in are then -/
abbrev Con := List Av → Option (Except Er Rt × List (List D))

def ArgOk (K : PySem.W.Frag) (F H : Hp) : Av → V → Prop
  | .d x, v => Dq K F v x
  | .o xs, v => ∃ a vs, v = .ref a ∧ H a = some (.lst vs) ∧ DqA K F vs xs ∧ F a = none
def owns : List Av → List V → List Addr
  | .d _ :: as, _ :: vs => owns as vs
  | .o _ :: as, .ref a :: vs => a :: owns as vs
  | _, _ => []
structure Post (K : PySem.W.Frag) (F H F' H' : Hp) (as : List Addr) (outs : List (List D)) : Prop where
  ff : Same F F'
  fh : Same F' H'
  hh : ∀ a o, H a = some o → a ∉ as → (∀ ps, o ≠ .tbl ps) → H' a = some o
  nf : ∀ a, H a ≠ none → (∀ ps, H a ≠ some (.tbl ps)) → F a = none → F' a = none
  tb : LamX.Tabs (Tb0.T K) H'
  nt : ∀ a ps, F' a ≠ some (.tbl ps)
  outs : Paired (fun a xs => ∃ vs, H' a = some (.lst vs) ∧ DqA K F' vs xs) as outs
def RetOk (K : PySem.W.Frag) (H F' H' : Hp) (Q : VK) (E : XK) : Except Er Rt → Prop
  | .ok (.d x) => ∀ v, Dq K F' v x → Q v H'
  | .ok (.o xs) => ∀ a ws, H' a = some (.lst ws) → DqA K F' ws xs → F' a = none → noT H a = none → Q (.ref a) H'
  | .error e => ∀ cls dd, ErOk K F' H' e cls dd → E cls dd H'
def spC (K : PySem.W.Frag) (n : Nat) (c : Con) : Sp := fun vs H Q E => vs.length = n ∧ ∃ F as, (Same F H ∧ LamX.Tabs (Tb0.T K) H ∧ ∀ a ps, F a ≠ some (.tbl ps)) ∧ Paired (ArgOk K F H) as vs ∧ (owns as vs).Nodup ∧ ∃ r outs, c as = some (r, outs) ∧
  ∀ F' H', Post K F H F' H' (owns as vs) outs → RetOk K H F' H' Q E r

/-! ### a call -/
def arg1 : Bool → Hd → M Hd
  | false, h => bnd (cl h) fun x => pur (.d x)
  | true, .s i => pur (.s i)
  | true, .d _ => fun _ => none
def argM : List Bool → List Hd → M (List Hd)
  | [], hs => if hs.isEmpty then pur [] else fun _ => none
  | m :: ms, hs => match hs with
    | [] => fun _ => none
    | h :: hs => bnd (arg1 m h) fun x => bnd (argM ms hs) fun r => pur (x :: r)
theorem argM_cons {m : Bool} {ms : List Bool} {h : Hd} {hs : List Hd} : argM (m :: ms) (h :: hs) = bnd (arg1 m h) fun x => bnd (argM ms hs) fun r => pur (x :: r) := rfl
def avs (ρ : Rho) : List Hd → Option (List Av)
  | [] => some []
  | .d x :: hs => (avs ρ hs).map (Av.d x :: ·)
  | .s i :: hs => match ρ[i]? with
    | some (.o _ xs) => (avs ρ hs).map (Av.o xs :: ·)
    | _ => none
@[simp] def slotsOf : List Hd → List Nat
  | [] => []
  | .d _ :: hs => slotsOf hs
  | .s i :: hs => i :: slotsOf hs
def putO (ρ : Rho) (i : Nat) (xs : List D) : Rho := match ρ[i]? with
  | some (.o b _) => ρ.set i (.o b xs)
  | _ => ρ
def putAll : List Nat → List (List D) → Rho → Rho
  | i :: is, xs :: xss, ρ => putAll is xss (putO ρ i xs)
  | _, _, ρ => ρ
def dCallF (ms : List Bool) (c : Con) (f : M (List Hd)) : M Rt := bnd f fun hs => bnd (argM ms hs) fun hs' ρ =>
  if (slotsOf hs').Nodup then match avs ρ hs' with
    | some as => (match c as with
      | some (r, outs) => if outs.length = (slotsOf hs').length then some (r, putAll (slotsOf hs') outs ρ) else none
      | none => none)
    | none => none
  else none
@[simp] def rtD : Rt → Option Hd
  | .d x => some (.d x)
  | .o _ => none
@[simp] def rtO : Rt → Option (List D)
  | .o xs => some xs
  | .d _ => none
def dCall (ms : List Bool) (c : Con) (f : M (List Hd)) : M Hd := bnd (dCallF ms c f) fun r => lft (rtD r)
def dCallOwn (ms : List Bool) (c : Con) (f : M (List Hd)) : M (List D) := bnd (dCallF ms c f) fun r => lft (rtO r)

section
variable {K : PySem.W.Frag} {Wx : WX} {W : Wd} {ρ ρ' : Rho} {σ : St} {F F' H H' : Hp}
theorem RunAt.arg1 {β : Type} {m : Bool} {h : Hd} {v : V} {k : Hd → M β} {κ : Rho → β → Hp → Hp → Prop} (R : RunAt K Wx (bnd (arg1 m h) k) W ρ σ F κ) (S : StOk K W ρ σ F H) (q : HdOk K F σ h v) :
    ∃ h' ρ1 F1, StOk K W ρ1 σ F1 H ∧ Same F F1 ∧ HdOk K F1 σ h' v ∧ RunAt K Wx (k h') W ρ1 σ F1 κ := by
  cases m with
  | false =>
    have R : RunAt K Wx (bnd (bnd (DL.cl h) fun x => DL.pur (.d x)) k) W ρ σ F κ := R
    rw [bnd_assoc] at R
    obtain ⟨x, ρ1, F1, S1, s1, qx, R1⟩ := R.cl S q
    exact ⟨.d x, ρ1, F1, S1, s1, qx, R1⟩
  | true =>
    cases h with
    | s i => exact ⟨.s i, ρ, F, S, Same.refl _, q, R⟩
    | d x => obtain ⟨_, _, e, _⟩ := R; cases e
theorem RunAt.argM {β : Type} {ms : List Bool} : ∀ {hs : List Hd} {vs : List V} {k : List Hd → M β} {κ : Rho → β → Hp → Hp → Prop} {ρ : Rho} {F : Hp}, RunAt K Wx (bnd (argM ms hs) k) W ρ σ F κ → StOk K W ρ σ F H → HdsOk K F σ hs vs →
    ∃ hs' ρ1 F1, StOk K W ρ1 σ F1 H ∧ Same F F1 ∧ HdsOk K F1 σ hs' vs ∧ RunAt K Wx (k hs') W ρ1 σ F1 κ := by
  induction ms with
  | nil =>
    intro hs vs k κ ρ F R S q
    cases q with
    | nil => exact ⟨[], ρ, F, S, Same.refl _, .nil, R⟩
    | cons _ _ => obtain ⟨_, _, e, _⟩ := R; cases e
  | cons m ms ih =>
    intro hs vs k κ ρ F R S q
    cases q with
    | nil => obtain ⟨_, _, e, _⟩ := R; cases e
    | cons q qs =>
      rw [argM_cons, bnd_assoc] at R
      obtain ⟨x, ρ1, F1, S1, s1, qx, R1⟩ := RunAt.arg1 R S q
      rw [bnd_assoc] at R1
      obtain ⟨xs, ρ2, F2, S2, s2, qxs, R2⟩ := ih R1 S1 (HdsOk.sm s1 qs)
      exact ⟨x :: xs, ρ2, F2, S2, s1.trans s2, .cons (qx.sm s2) qxs, R2⟩
/-- the address in a slot -/
def adrOf (σ : St) (i : Nat) : Addr := match σ[i]? with
  | some (some (.ref a)) => a
  | _ => 0
theorem avs_ok (S : StOk K W ρ σ F H) : ∀ {hs : List Hd} {vs : List V} {as : List Av}, avs ρ hs = some as → HdsOk K F σ hs vs → Paired (ArgOk K F H) as vs ∧ owns as vs = (slotsOf hs).map (adrOf σ) ∧ ∀ i ∈ slotsOf hs, ∃ b xs, ρ[i]? = some (.o b xs) := by
  intro hs
  induction hs with
  | nil =>
    intro vs as e q
    cases q
    cases e
    exact ⟨.nil, rfl, fun _ z => nomatch z⟩
  | cons h hs ih =>
    intro vs as e q
    cases q with
    | @cons _ v _ vs q qs =>
    cases h with
    | d x =>
      have e : (avs ρ hs).map (Av.d x :: ·) = some as := e
      cases e1 : avs ρ hs with
      | none => rw [e1] at e; cases e
      | some as1 =>
        rw [e1] at e
        cases e
        obtain ⟨h1, h2, h3⟩ := ih e1 qs
        exact ⟨.cons q h1, h2, h3⟩
    | s i =>
      unfold avs at e
      cases ei : ρ[i]? with
      | none => rw [ei] at e; cases e
      | some s =>
        rw [ei] at e
        cases s with
        | no => cases e
        | d x => cases e
        | o b xs =>
          dsimp only at e
          cases e1 : avs ρ hs with
          | none => rw [e1] at e; cases e
          | some as1 =>
            rw [e1] at e
            cases e
            obtain ⟨h1, h2, h3⟩ := ih e1 qs
            obtain ⟨a, g1, ⟨vs2, g2, g3⟩, g4, _⟩ := S.own ei
            have ev : v = .ref a := by
              have q : σ[i]? = some (some v) := q
              rw [g1] at q; injection q with z; injection z with z; exact z.symm
            subst ev
            refine ⟨.cons ⟨a, vs2, rfl, g2, g3, g4⟩ h1, ?_, fun j hj => ?_⟩
            · show a :: owns as1 _ = adrOf σ i :: _
              rw [h2]
              unfold adrOf
              rw [g1]
            · rcases List.mem_cons.mp hj with z | z
              · subst z; exact ⟨b, xs, ei⟩
              · exact h3 j z
theorem putO_other {ρ : Rho} {i j : Nat} {xs : List D} (h : j ≠ i) : (putO ρ i xs)[j]? = ρ[j]? := by
  unfold putO
  split
  · rw [List.getElem?_set_ne (Ne.symm h)]
  · rfl
theorem putO_same {ρ : Rho} {i : Nat} {b : Option Nat} {xs ys : List D} (h : ρ[i]? = some (.o b ys)) : (putO ρ i xs)[i]? = some (.o b xs) := by
  unfold putO
  rw [h]
  exact List.getElem?_set_self (List.getElem?_eq_some_iff.mp h).1
theorem putO_len {ρ : Rho} {i : Nat} {xs : List D} : (putO ρ i xs).length = ρ.length := by
  unfold putO
  split
  · exact List.length_set ..
  · rfl
theorem putAll_len : ∀ {is : List Nat} {xss : List (List D)} {ρ : Rho}, (putAll is xss ρ).length = ρ.length
  | [], [], _ => rfl
  | [], _ :: _, _ => rfl
  | _ :: _, [], _ => rfl
  | i :: is, xs :: xss, ρ => by
    show (putAll is xss (putO ρ i xs)).length = _
    rw [putAll_len, putO_len]
theorem putAll_other : ∀ {is : List Nat} {xss : List (List D)} {ρ : Rho} {j : Nat}, j ∉ is → (putAll is xss ρ)[j]? = ρ[j]?
  | [], [], _, _, _ => rfl
  | [], _ :: _, _, _, _ => rfl
  | _ :: _, [], _, _, _ => rfl
  | i :: is, xs :: xss, ρ, j, h => by
    show (putAll is xss (putO ρ i xs))[j]? = _
    rw [putAll_other fun z => h (List.mem_cons_of_mem _ z), putO_other fun z => h (by rw [z]; exact List.mem_cons_self)]
theorem putAll_in : ∀ {is : List Nat} {xss : List (List D)} {ρ : Rho} {j : Nat} {b : Option Nat} {ys : List D} {f : Nat → Addr} {R : Addr → List D → Prop}, is.Nodup → j ∈ is → Paired R (is.map f) xss → ρ[j]? = some (.o b ys) → ∃ xs, (putAll is xss ρ)[j]? = some (.o b xs) ∧ R (f j) xs
  | [], _, _, _, _, _, _, _, _, hj, _, _ => nomatch hj
  | i :: is, _, ρ, j, b, ys, f, R, nd, hj, t0, e => by
    cases t0 with
    | @cons _ xs _ xss r t =>
    obtain ⟨n1, n2⟩ := List.nodup_cons.mp nd
    show ∃ zs, (putAll is xss (putO ρ i xs))[j]? = some (.o b zs) ∧ R (f j) zs
    rcases List.mem_cons.mp hj with z | z
    · subst z
      exact ⟨xs, by rw [putAll_other n1]; exact putO_same e, r⟩
    · have hne : j ≠ i := fun q => n1 (q ▸ z)
      exact putAll_in n2 z t (by rw [putO_other hne]; exact e)
/-- behind a call the slots are so -/
theorem StOk.post (S : StOk K W ρ σ F H) {is : List Nat} {outs : List (List D)} (nd : is.Nodup) (ho : ∀ i ∈ is, ∃ b xs, ρ[i]? = some (.o b xs)) (P : Post K F H F' H' (is.map (adrOf σ)) outs) : StOk K W (putAll is outs ρ) σ F' H' := by
  have adr : ∀ {i : Nat} {b : Option Nat} {xs : List D} {a : Addr}, ρ[i]? = some (.o b xs) → σ[i]? = some (some (.ref a)) → adrOf σ i = a := fun {i b xs a} _ e => by unfold adrOf; rw [e]
  have inB : ∀ a ∈ is.map (adrOf σ), (W.H0 a = none ∨ a ∈ W.B) ∧ H a ≠ none ∧ F a = none := fun a ha => by
    obtain ⟨i, hi, e⟩ := List.mem_map.mp ha
    obtain ⟨b, xs, eo⟩ := ho i hi
    obtain ⟨a', g1, ⟨vs, g2, _⟩, g3, g4⟩ := S.own eo
    rw [adr eo g1] at e
    subst e
    refine ⟨?_, (by rw [g2]; exact fun z => nomatch z), g3⟩
    cases b with
    | none => exact .inl g4.1
    | some k => exact .inr (List.mem_of_getElem? g4)
  have dist : ∀ {i j : Nat} {b : Option Nat} {xs : List D} {a : Addr}, j ∈ is → i ≠ j → ρ[i]? = some (.o b xs) → σ[i]? = some (some (.ref a)) → adrOf σ j ≠ a := fun {i j b xs a} hj hij e1 e2 z => by
    obtain ⟨b', xs', eo⟩ := ho j hj
    obtain ⟨a', g1, _⟩ := S.own eo
    rw [adr eo g1] at z
    subst z
    exact S.dis i j a' b b' xs xs' hij e1 eo e2 g1
  refine ⟨⟨P.fh, S.cfg.ff.trans P.ff, fun a o h1 h2 => ?_, S.cfg.n0, fun a h1 h2 => P.nf a (S.cfg.hn a h1) (fun ps z => ?_) (S.cfg.nf a h1 h2), fun a ha => ?_, P.tb, P.nt⟩, by rw [putAll_len]; exact S.len, fun i s e => ?_, fun i j a b c xs ys hij h1 h2 h3 => ?_⟩
  · refine P.hh a o (S.cfg.hh a o h1 h2) (fun z => ?_) fun ps z => S.cfg.n0 a ps (h1.trans (congrArg some z))
    obtain ⟨q, _⟩ := inB a z
    rcases q with q | q
    · rw [h1] at q; cases q
    · exact h2 q
  · by_cases hb : a ∈ W.B
    · obtain ⟨vs, e⟩ := S.cfg.bb a hb
      rw [e] at z; cases z
    · cases q : W.H0 a with
      | none => exact h1 q
      | some o =>
        rw [S.cfg.hh a o q hb] at z
        exact S.cfg.n0 a ps (q.trans z)
  · by_cases z : a ∈ is.map (adrOf σ)
    · obtain ⟨i, hi, e⟩ := List.mem_map.mp z
      obtain ⟨b, xs, eo⟩ := ho i hi
      obtain ⟨zs, _, vs, g, _⟩ := putAll_in (xss := outs) nd hi P.outs eo
      exact ⟨vs, by rw [← e]; exact g⟩
    · obtain ⟨vs, e⟩ := S.cfg.bb a ha
      exact ⟨vs, P.hh a _ e z fun _ z => nomatch z⟩
  · by_cases hi : i ∈ is
    · obtain ⟨b, xs, eo⟩ := ho i hi
      obtain ⟨zs, e2, vs, g, gd⟩ := putAll_in (xss := outs) nd hi P.outs eo
      rw [e2] at e
      cases e
      obtain ⟨a, g1, ⟨_, g2, _⟩, g3, g4⟩ := S.own eo
      rw [adr eo g1] at g
      exact ⟨_, g1, a, rfl, ⟨vs, g, gd⟩, P.nf a (by rw [g2]; exact fun z => nomatch z) (by rw [g2]; exact fun _ z => nomatch z) g3, g4⟩
    · rw [putAll_other hi] at e
      obtain ⟨v, g1, g2⟩ := S.sl i s e
      refine ⟨v, g1, ?_⟩
      cases s with
      | no => trivial
      | d x => obtain ⟨u, r, q⟩ := g2; exact ⟨u, r, q.m P.ff⟩
      | o b xs =>
        obtain ⟨a, rfl, ⟨vs, g3, g4⟩, g5, g6⟩ := g2
        refine ⟨a, rfl, ⟨vs, P.hh a _ g3 (fun z => ?_) (fun _ z => nomatch z), g4.m P.ff⟩, P.nf a (by rw [g3]; exact fun z => nomatch z) (by rw [g3]; exact fun _ z => nomatch z) g5, g6⟩
        obtain ⟨j, hj, ej⟩ := List.mem_map.mp z
        exact dist hj (fun q => hi (by rw [q]; exact hj)) e g1 ej
  · have conv : ∀ {n : Nat} {bb : Option Nat} {zs : List D}, (putAll is outs ρ)[n]? = some (.o bb zs) → ∃ bb' zs', ρ[n]? = some (.o bb' zs') := fun {n bb zs} h => by
      by_cases hn : n ∈ is
      · exact ho n hn
      · rw [putAll_other hn] at h; exact ⟨_, _, h⟩
    obtain ⟨_, _, k1⟩ := conv h1
    obtain ⟨_, _, k2⟩ := conv h2
    exact S.dis i j a _ _ _ _ hij k1 k2 h3
/-- the call itself -/
theorem tE_callF {n : Nat} {ms : List Bool} {c : Con} {f : M (List Hd)} {κ : Rho → Rt → Hp → Hp → Prop} {Q : VK} (S0 : StOk K W ρ σ F H) (R : RunAt K Wx (dCallF ms c f) W ρ σ F κ) (hn : ∀ hs ρ', f ρ = some (.ok hs, ρ') → hs.length = n)
    (hd : ∀ ρ' x F' H', StOk K W ρ' σ F' H' → κ ρ' (.d x) F' H' → ∀ v, Dq K F' v x → Q v H') (ho : ∀ ρ' xs F' H', StOk K W ρ' σ F' H' → κ ρ' (.o xs) F' H' → ∀ a, OwnAt K W F' H' none a xs → Lone ρ' σ a → Q (.ref a) H') :
    RunAt K Wx f W ρ σ F fun ρ1 hs F1 H1 => ∀ vs, HdsOk K F1 σ hs vs → spC K n c vs H1 Q (WE Wx σ) := by
  have hlen : RunAt K Wx f W ρ σ F fun ρ1 hs _ _ => f ρ = some (.ok hs, ρ1) := by
    obtain ⟨r, ρ', e, q⟩ := R.bind
    refine ⟨r, ρ', e, ?_⟩
    cases r with
    | ok a => exact fun _ _ _ _ => e
    | error x => exact q
  have both : RunAt K Wx f W ρ σ F fun ρ1 hs F1 H1 => f ρ = some (.ok hs, ρ1) ∧ RunAt K Wx (bnd (argM ms hs) fun hs' ρ =>
      if (slotsOf hs').Nodup then match avs ρ hs' with
        | some as => (match c as with
          | some (r, outs) => if outs.length = (slotsOf hs').length then some (r, putAll (slotsOf hs') outs ρ) else none
          | none => none)
        | none => none
      else none) W ρ1 σ F1 κ := by
    obtain ⟨r, ρ', e, q⟩ := R.bind
    refine ⟨r, ρ', e, ?_⟩
    cases r with
    | ok a => exact fun F' H' S s => ⟨e, q F' H' S s⟩
    | error x => exact q
  refine both.imp fun ρ1 hs F1 H1 S1 s1 ⟨ef, R1⟩ vs hvs => ?_
  obtain ⟨hs', ρ2, F2, S2, s2, qh, r, ρ3, e, fin⟩ := R1.argM S1 hvs
  dsimp only at e
  by_cases nd : (slotsOf hs').Nodup
  case neg => rw [if_neg nd] at e; cases e
  rw [if_pos nd] at e
  cases ea : avs ρ2 hs' with
  | none => rw [ea] at e; cases e
  | some as =>
    rw [ea] at e
    dsimp only at e
    cases ec : c as with
    | none => rw [ec] at e; cases e
    | some z =>
      obtain ⟨r', outs⟩ := z
      rw [ec] at e
      dsimp only at e
      by_cases hl : outs.length = (slotsOf hs').length
      case neg => rw [if_neg hl] at e; cases e
      rw [if_pos hl] at e
      cases e
      obtain ⟨h1, h2, h3⟩ := avs_ok S2 ea qh
      refine ⟨by rw [← hvs.len]; exact hn _ _ ef, F2, as, ⟨S2.fh, S2.cfg.tb, S2.cfg.nt⟩, h1, ?_, r, outs, ec, fun F' H' P => ?_⟩
      · rw [h2]
        -- distinct slots, distinct lists
        have : ∀ (l : List Nat), l.Nodup → (∀ i ∈ l, ∃ b xs, ρ2[i]? = some (.o b xs)) → (l.map (adrOf σ)).Nodup := by
          intro l
          induction l with
          | nil => intro _ _; exact List.nodup_nil
          | cons i l ih =>
            intro n h
            obtain ⟨n1, n2⟩ := List.nodup_cons.mp n
            refine List.nodup_cons.mpr ⟨fun z => ?_, ih n2 fun j hj => h j (List.mem_cons_of_mem _ hj)⟩
            obtain ⟨j, hj, ej⟩ := List.mem_map.mp z
            obtain ⟨b, xs, e1⟩ := h i List.mem_cons_self
            obtain ⟨b', xs', e2⟩ := h j (List.mem_cons_of_mem _ hj)
            obtain ⟨a, g1, _⟩ := S2.own e1
            obtain ⟨a', g1', _⟩ := S2.own e2
            unfold adrOf at ej
            rw [g1, g1'] at ej
            have ej : a' = a := ej
            subst ej
            exact S2.dis i j a' b b' xs xs' (fun q => n1 (by rw [q]; exact hj)) e1 e2 g1 g1'
        exact this _ nd h3
      · rw [h2] at P
        have S3 := S2.post nd h3 P
        cases r with
        | ok t =>
          have kk := fin F' H' S3 P.ff
          cases t with
          | d x => exact fun v q => hd _ x F' H' S3 kk v q
          | o xs =>
            intro a ws e1 e2 e3 e4
            obtain ⟨⟨f1, f1'⟩, f2, f3⟩ := S2.freshT e4
            refine ho _ xs F' H' S3 kk a ⟨⟨ws, e1, e2⟩, e3, f1, f1'⟩ fun i b zs g1 g2 => ?_
            obtain ⟨a', k1, ⟨us, k2, _⟩, _⟩ := S3.own g1
            rw [g2] at k1
            have ea : a = a' := by injection k1 with z; injection z with z; injection z
            subst ea
            -- the slot had it ahead of the call
            by_cases hi : i ∈ slotsOf hs'
            · obtain ⟨b2, xs2, eo⟩ := h3 i hi
              obtain ⟨a3, m1, ⟨us3, m2, _⟩, _⟩ := S2.own eo
              rw [g2] at m1
              have ea : a = a3 := by injection m1 with z; injection z with z; injection z
              subst ea
              rw [noT_of m2 fun _ z => nomatch z] at e4; cases e4
            · rw [putAll_other hi] at g1
              obtain ⟨a3, m1, ⟨us3, m2, _⟩, _⟩ := S2.own g1
              rw [g2] at m1
              have ea : a = a3 := by injection m1 with z; injection z with z; injection z
              subst ea
              rw [noT_of m2 fun _ z => nomatch z] at e4; cases e4
        | error x => exact fun cls dd er => fin F' H' cls dd S3 P.ff er
end

section
variable {X : Cx} {Wx : WX} {e : Expr} {es : List Expr} {pos p : Pos} {x : Str} {n k : Nat} {c : Con} {g : Addr} {fd : FuncData} {ps : List Str}
/-- the number of the arguments -/
def lenA {α : Type} (n : Nat) (f : M (List α)) : Prop := ∀ ρ hs ρ', f ρ = some (.ok hs, ρ') → hs.length = n
theorem lenA_nil : lenA 0 dNil := fun ρ hs ρ' e => by cases e; rfl
theorem lenA_cons {f : M Hd} {g : M (List Hd)} {n : Nat} (h : lenA n g) : lenA (n + 1) (dCons f g) := fun ρ hs ρ' e => by
  unfold dCons bnd at e
  cases h1 : f ρ with
  | none => rw [h1] at e; cases e
  | some z =>
    obtain ⟨r, ρ1⟩ := z
    rw [h1] at e
    cases r with
    | error _ => cases e
    | ok a =>
      dsimp only at e
      cases h2 : g ρ1 with
      | none => rw [h2] at e; cases e
      | some z =>
        obtain ⟨r, ρ2⟩ := z
        rw [h2] at e
        cases r with
        | error _ => cases e
        | ok b =>
          cases e
          show b.length + 1 = n + 1
          rw [h _ _ _ h2]
theorem je_call {f : M (List Hd)} (ms : List Bool) (F : FnOk X.prog X.w X.K X.mg X.base (L2.CX X.prog X.w) k g fd ps (spC X.K n c)) (hr : Room k X.A) (hg : Gl X x) (hm : X.mg x = some (.ref g)) (hk : PySem.W.keepIn X.K (.ref g) = true) (hb : Binds X.K fd ps []) (tk : Takes X Wx)
    (ha : JA X Wx (e :: es) f) (hl : lenA n f) (hdb : (x == ("__debug__" : Str)) = false := by decide) (he : starEach (e :: es) X.env = (false, eval e X.env) :: starEach es X.env := by rfl) (hpl : (backTo pos (starEach es X.env)).any (·.1) = false := by rfl) :
    JE X Wx (.Call (.Name x p) (e :: es) [] pos) (dCall ms c f) := PE.imp (pe_callS F hr hg hm hk hb (fun σ => passAt tk σ) ha hdb he hpl) fun σ H Q ⟨W, F, ρ, S, R⟩ =>
  ⟨W, F, ρ, S, tE_callF S R.bind (fun hs ρ' e => hl _ _ _ e) (fun ρ' y F' H' S' R' v q => by
      obtain ⟨z, ez, R2⟩ := RunAt.lft0 R'
      cases ez
      exact R2.pur S' (Same.refl _) v q) fun ρ' xs F' H' S' R' a q l => by
      obtain ⟨z, ez, R2⟩ := RunAt.lft0 R'
      cases ez⟩
theorem jo_call {f : M (List Hd)} (ms : List Bool) (F : FnOk X.prog X.w X.K X.mg X.base (L2.CX X.prog X.w) k g fd ps (spC X.K n c)) (hr : Room k X.A) (hg : Gl X x) (hm : X.mg x = some (.ref g)) (hk : PySem.W.keepIn X.K (.ref g) = true) (hb : Binds X.K fd ps []) (tk : Takes X Wx)
    (ha : JA X Wx (e :: es) f) (hl : lenA n f) (hdb : (x == ("__debug__" : Str)) = false := by decide) (he : starEach (e :: es) X.env = (false, eval e X.env) :: starEach es X.env := by rfl) (hpl : (backTo pos (starEach es X.env)).any (·.1) = false := by rfl) :
    JO X Wx (.Call (.Name x p) (e :: es) [] pos) (dCallOwn ms c f) := PE.imp (pe_callS F hr hg hm hk hb (fun σ => passAt tk σ) ha hdb he hpl) fun σ H Q ⟨W, F, ρ, S, R⟩ =>
  ⟨W, F, ρ, S, tE_callF S R.bind (fun hs ρ' e => hl _ _ _ e) (fun ρ' y F' H' S' R' v q => by
      obtain ⟨z, ez, R2⟩ := RunAt.lft0 R'
      cases ez) fun ρ' xs F' H' S' R' a q l => by
      obtain ⟨z, ez, R2⟩ := RunAt.lft0 R'
      cases ez
      exact R2.pur S' (Same.refl _) a q l⟩
end

/-! ### a def's body -/
@[simp] def startGo : Nat → List Av → Rho
  | _, [] => []
  | k, .d x :: as => .d x :: startGo k as
  | k, .o xs :: as => .o (some k) xs :: startGo (k + 1) as
@[simp] def startR (n : Nat) (as : List Av) : Rho := startGo 0 as ++ List.replicate (n - as.length) .no
def outsGo (ρ : Rho) : Nat → Nat → List Av → Option (List (List D))
  | _, _, [] => some []
  | i, k, .d _ :: as => outsGo ρ (i + 1) k as
  | i, k, .o _ :: as => match ρ[i]? with
    | some (.o (some k') xs) => if k' = k then (outsGo ρ (i + 1) (k + 1) as).map (xs :: ·) else none
    | _ => none
def conOf (np n : Nat) (g : MS) : Con := fun as => if as.length = np then match g (startR n as) with
  | some (fl, ρ') => (match outsGo ρ' 0 0 as with
    | some outs => (match fl with
      | .nx => some (.ok (.d .non), outs)
      | .rt d => some (.ok (.d d), outs)
      | .ro xs => some (.ok (.o xs), outs)
      | .er e => some (.error e, outs)
      | _ => none)
    | none => none)
  | none => none
  else none
section
variable {K : PySem.W.Frag} {F F' H H' : Hp}
theorem startGo_len : ∀ {k : Nat} {as : List Av}, (startGo k as).length = as.length
  | _, [] => rfl
  | k, .d _ :: as => by show (startGo k as).length + 1 = as.length + 1; rw [startGo_len]
  | k, .o _ :: as => by show (startGo (k + 1) as).length + 1 = as.length + 1; rw [startGo_len]
theorem startGo_sl : ∀ {as : List Av} {vs : List V} {B0 : List Addr} {i : Nat} {s : Sl}, Paired (ArgOk K F H) as vs → (startGo B0.length as)[i]? = some s → ∃ v, vs[i]? = some v ∧ SlOk K ⟨noT H, F, B0 ++ owns as vs⟩ F H s (some v)
  | [], _, B0, i, s, .nil, e => by simp [startGo] at e
  | .d x :: as, _, B0, 0, s, .cons q qs, e => by
    cases e
    exact ⟨_, rfl, _, rfl, q⟩
  | .d x :: as, _, B0, i + 1, s, .cons q qs, e => by
    obtain ⟨v, h1, h2⟩ := startGo_sl (B0 := B0) (i := i) qs (by simpa [startGo] using e)
    exact ⟨v, by simpa using h1, h2⟩
  | .o xs :: as, _, B0, 0, s, .cons q qs, e => by
    obtain ⟨a, ws, rfl, h2, h3, h4⟩ := q
    cases e
    refine ⟨_, rfl, a, rfl, ⟨ws, h2, h3⟩, h4, ?_⟩
    show (B0 ++ (a :: _))[B0.length]? = some a
    rw [List.getElem?_append_right (Nat.le_refl _), Nat.sub_self]
    rfl
  | .o xs :: as, _, B0, i + 1, s, .cons q qs, e => by
    obtain ⟨a, ws, rfl, h2, h3, h4⟩ := q
    obtain ⟨v, h1, h5⟩ := startGo_sl (B0 := B0 ++ [a]) (i := i) qs (by rw [List.length_append]; simpa [startGo] using e)
    rw [List.append_assoc] at h5
    exact ⟨v, by simpa using h1, h5⟩
theorem startGo_own : ∀ {as : List Av} {vs : List V} {k i : Nat} {b : Option Nat} {xs : List D} {a : Addr}, Paired (ArgOk K F H) as vs → (startGo k as)[i]? = some (.o b xs) → vs[i]? = some (.ref a) → ∃ j, b = some (k + j) ∧ (owns as vs)[j]? = some a
  | [], _, k, i, b, xs, a, .nil, e, _ => by simp [startGo] at e
  | .d x :: as, _, k, 0, b, xs, a, .cons q qs, e, _ => by cases e
  | .d x :: as, _, k, i + 1, b, xs, a, .cons q qs, e, h => by
    have := startGo_own (as := as) (i := i) (k := k) qs (by simpa [startGo] using e) (by simpa using h)
    exact this
  | .o ys :: as, _, k, 0, b, xs, a, .cons q qs, e, h => by
    obtain ⟨a', ws, rfl, _⟩ := q
    cases e
    have ea : a' = a := by injection h with z; injection z
    subst ea
    exact ⟨0, rfl, rfl⟩
  | .o ys :: as, _, k, i + 1, b, xs, a, .cons q qs, e, h => by
    obtain ⟨a', ws, rfl, _⟩ := q
    obtain ⟨j, h1, h2⟩ := startGo_own (i := i) (k := k + 1) qs (by simpa [startGo] using e) (by simpa using h)
    exact ⟨j + 1, by rw [h1]; congr 1; omega, h2⟩
theorem own_in : ∀ {as : List Av} {vs : List V} {a : Addr}, Paired (ArgOk K F H) as vs → a ∈ owns as vs → ∃ ws, H a = some (.lst ws)
  | [], _, _, .nil, h => by cases h
  | .d _ :: as, _, a, .cons q qs, h => own_in qs h
  | .o _ :: as, _, a, .cons q qs, h => by
    obtain ⟨a', ws, rfl, h2, _⟩ := q
    rcases List.mem_cons.mp h with z | z
    · subst z; exact ⟨ws, h2⟩
    · exact own_in qs z
theorem nodup_at {l : List Addr} (h : l.Nodup) {i j : Nat} {a : Addr} (e1 : l[i]? = some a) (e2 : l[j]? = some a) : i = j := by
  obtain ⟨h1, q1⟩ := List.getElem?_eq_some_iff.mp e1
  obtain ⟨h2, q2⟩ := List.getElem?_eq_some_iff.mp e2
  exact (List.getElem_inj h).mp (q1.trans q2.symm)
/-- the slots at a def's entry -/
theorem st_start {N : List Str} {as : List Av} {vs : List V} (sm : Same F H) (tb : LamX.Tabs (Tb0.T K) H) (nt : ∀ a ps, F a ≠ some (.tbl ps)) (h : Paired (ArgOk K F H) as vs) (nd : (owns as vs).Nodup) (hn : vs.length ≤ N.length) : StOk K ⟨noT H, F, owns as vs⟩ (startR N.length as) (L2.start N vs) F H := by
  have hl : as.length = vs.length := Paired.length h
  have look : ∀ {i : Nat} {s : Sl}, (startR N.length as)[i]? = some s → (i < as.length ∧ (startGo 0 as)[i]? = some s) ∨ (as.length ≤ i ∧ i < N.length ∧ s = .no) := fun {i s} e => by
    unfold startR at e
    by_cases hi : i < as.length
    · rw [List.getElem?_append_left (by rw [startGo_len]; exact hi)] at e
      exact .inl ⟨hi, e⟩
    · rw [List.getElem?_append_right (by rw [startGo_len]; omega), startGo_len, List.getElem?_replicate] at e
      split at e
      · cases e; exact .inr ⟨by omega, by omega, rfl⟩
      · cases e
  have lookV : ∀ {i : Nat}, i < vs.length → (L2.start N vs)[i]? = (vs[i]?).map some := fun {i} hi => by
    unfold L2.start
    rw [List.getElem?_append_left (by simpa using hi), List.getElem?_map]
  refine ⟨⟨sm, Same.refl _, fun _ _ h _ => (noT_some h).1, fun a ps h => (noT_some h).2 ps rfl, fun _ _ h => h, fun a ha => own_in h ha, tb, nt⟩, ?_, fun i s e => ?_, fun i j a b c xs ys hij h1 h2 h3 h4 => ?_⟩
  · unfold startR L2.start
    rw [List.length_append, List.length_append, startGo_len, List.length_replicate, List.length_map, List.length_replicate]
    omega
  · rcases look e with ⟨hi, e⟩ | ⟨hi, hN, rfl⟩
    · obtain ⟨v, g1, g2⟩ := startGo_sl (B0 := []) h e
      exact ⟨some v, by rw [lookV (by omega), g1]; rfl, g2⟩
    · refine ⟨none, ?_, trivial⟩
      unfold L2.start
      rw [List.getElem?_append_right (by rw [List.length_map]; omega), List.length_map, List.getElem?_replicate, if_pos (by omega)]
  · rcases look h1 with ⟨hi, e1⟩ | ⟨_, _, z⟩
    · rcases look h2 with ⟨hj, e2⟩ | ⟨_, _, z⟩
      · have v1 : vs[i]? = some (.ref a) := by
          rw [lookV (by omega)] at h3
          cases q : vs[i]? with
          | none => rw [q] at h3; cases h3
          | some v => rw [q] at h3; exact Option.some.inj h3
        have v2 : vs[j]? = some (.ref a) := by
          rw [lookV (by omega)] at h4
          cases q : vs[j]? with
          | none => rw [q] at h4; cases h4
          | some v => rw [q] at h4; exact Option.some.inj h4
        obtain ⟨m, rfl, k1⟩ := startGo_own h e1 v1
        obtain ⟨n, rfl, k2⟩ := startGo_own h e2 v2
        have := nodup_at nd k1 k2
        subst this
        -- the same number stands once
        have uniq : ∀ {as : List Av} {k i j n : Nat} {xs ys : List D}, (startGo k as)[i]? = some (.o (some n) xs) → (startGo k as)[j]? = some (.o (some n) ys) → i = j := by
          intro as
          induction as with
          | nil => intro k i j n xs ys e1 _; simp [startGo] at e1
          | cons x as ih =>
            intro k i j n xs ys e1 e2
            have low : ∀ {as : List Av} {k i n : Nat} {xs : List D}, (startGo k as)[i]? = some (.o (some n) xs) → k ≤ n := by
              intro as
              induction as with
              | nil => intro k i n xs e; simp [startGo] at e
              | cons x as ih =>
                intro k i n xs e
                cases x with
                | d y =>
                  cases i with
                  | zero => cases e
                  | succ i => exact ih (i := i) (by simpa [startGo] using e)
                | o y =>
                  cases i with
                  | zero => cases e; exact Nat.le_refl _
                  | succ i => exact Nat.le_of_succ_le (ih (k := k + 1) (i := i) (by simpa [startGo] using e))
            cases x with
            | d y =>
              cases i with
              | zero => cases e1
              | succ i =>
                cases j with
                | zero => cases e2
                | succ j => rw [ih (k := k) (i := i) (j := j) (by simpa [startGo] using e1) (by simpa [startGo] using e2)]
            | o y =>
              cases i with
              | zero =>
                cases e1
                cases j with
                | zero => rfl
                | succ j =>
                  have := low (k := k + 1) (i := j) (by simpa [startGo] using e2)
                  omega
              | succ i =>
                cases j with
                | zero =>
                  cases e2
                  have := low (k := k + 1) (i := i) (by simpa [startGo] using e1)
                  omega
                | succ j => rw [ih (k := k + 1) (i := i) (j := j) (by simpa [startGo] using e1) (by simpa [startGo] using e2)]
        exact hij (uniq e1 e2)
      · cases z
    · cases z
theorem outsGo_ok {B : List Addr} {ρ : Rho} {σ : St} (S : StOk K ⟨noT H, F, B⟩ ρ σ F' H') : ∀ {as : List Av} {vs : List V} {i : Nat} {B0 : List Addr} {outs : List (List D)}, Paired (ArgOk K F H) as vs → B = B0 ++ owns as vs → outsGo ρ i B0.length as = some outs →
    Paired (fun a xs => ∃ vs, H' a = some (.lst vs) ∧ DqA K F' vs xs) (owns as vs) outs
  | [], _, i, B0, outs, .nil, hB, e => by cases e; exact .nil
  | .d _ :: as, _, i, B0, outs, .cons q qs, hB, e => by
    have := outsGo_ok S (as := as) (i := i + 1) (B0 := B0) qs hB e
    exact this
  | .o _ :: as, _, i, B0, outs, .cons q qs, hB, e => by
    obtain ⟨a, ws, rfl, h2, _⟩ := q
    unfold outsGo at e
    cases ei : ρ[i]? with
    | none => rw [ei] at e; cases e
    | some s =>
      rw [ei] at e
      cases s with
      | no => cases e
      | d x => cases e
      | o b xs =>
        cases b with
        | none => cases e
        | some k' =>
          dsimp only at e
          by_cases hk : k' = B0.length
          case neg => rw [if_neg hk] at e; cases e
          rw [if_pos hk] at e
          cases e1 : outsGo ρ (i + 1) (B0.length + 1) as with
          | none => rw [e1] at e; cases e
          | some outs1 =>
            rw [e1] at e
            cases e
            obtain ⟨a', g1, ⟨us, g2, g3⟩, g4, g5⟩ := S.own ei
            have g5 : B[k']? = some a' := g5
            rw [hB, hk, List.getElem?_append_right (Nat.le_refl _), Nat.sub_self] at g5
            have ea : a = a' := by
              have g5 : some a = some a' := g5
              injection g5
            subst ea
            refine .cons ⟨us, g2, g3⟩ ?_
            have := outsGo_ok S (as := as) (i := i + 1) (B0 := B0 ++ [a]) qs (by rw [hB, List.append_assoc]; rfl) (by rw [List.length_append]; exact e1)
            exact this
end
section
variable {P : Program} {w : World} {K : PySem.W.Frag} {mg : Str → Option Value} {base : Heap}
/-- what the promise asks of the body -/
theorem con_ts {N : List Str} {n : Nat} {g : MS} {vs : List V} {H : Hp} {Q : VK} {E : XK} (hpl : n ≤ N.length) (h : spC K n (conOf n N.length g) vs H Q E) : tS K (fun cls d _ H => E cls d H) g { nx := fun _ H' => Q .non H', rt := Q } (L2.start N vs) H := by
  obtain ⟨hl, F0, as, ⟨sm, tb, nt⟩, ha, nd, r, outs, ec, post⟩ := h
  unfold conOf at ec
  by_cases hn : as.length = n
  case neg => rw [if_neg hn] at ec; cases ec
  rw [if_pos hn] at ec
  cases eg : g (startR N.length as) with
  | none => rw [eg] at ec; cases ec
  | some z =>
    obtain ⟨fl, ρ'⟩ := z
    rw [eg] at ec
    dsimp only at ec
    cases eo : outsGo ρ' 0 0 as with
    | none => rw [eo] at ec; cases ec
    | some outs' =>
      rw [eo] at ec
      dsimp only at ec
      have S0 := st_start (N := N) sm tb nt ha nd (by omega)
      have mk : ∀ {σ' : St} {F' H' : Hp}, StOk K ⟨noT H, F0, owns as vs⟩ ρ' σ' F' H' → Same F0 F' → Post K F0 H F' H' (owns as vs) outs' := fun {σ' F' H'} S' s' =>
        ⟨s', S'.fh, fun a o h1 h2 h3 => S'.cfg.hh a o (noT_of h1 h3) h2, fun a h1 h2 h3 => S'.cfg.nf a (by
          cases q : H a with
          | none => exact absurd q h1
          | some o =>
            have := noT_of q fun ps z => h2 ps (q.trans (congrArg some z))
            show noT H a ≠ none
            rw [this]; exact fun z => nomatch z) h3, S'.cfg.tb, S'.cfg.nt, outsGo_ok (B0 := []) S' ha rfl eo⟩
      refine ⟨⟨noT H, F0, owns as vs⟩, F0, startR N.length as, S0, fl, ρ', eg, ?_⟩
      cases fl with
      | nx => cases ec; exact fun σ' F' H' S' s' => post F' H' (mk S' s') _ .non
      | rt d => cases ec; exact fun v σ' F' H' S' s' q => post F' H' (mk S' s') v q
      | ro xs => cases ec; exact fun a σ' F' H' S' s' ⟨⟨ws, h1, h2⟩, h3, h4, _⟩ => post F' H' (mk S' s') a ws h1 h2 h3 h4
      | er e => cases ec; exact fun σ' F' H' cls dd S' s' er => post F' H' (mk S' s') cls dd er
      | bk => cases ec
      | ct => cases ec
theorem fn_d {x qual : Str} {params : Arguments} {body : List Stmt} {scope : Scope} {f : Addr} {fd : FuncData} {N ps : List Str} {k : Nat} {g : MS} (F : FunD K x qual params body scope [] [] f fd) (S : FnScope N ps scope)
    (hbody : ∀ (cdv : Value) (A : Around) (outer : List Env) (s : Shared) (H : Hp) (E : XK), Room k (A.deeper (envOfC qual scope s.heap.objs.size f cdv)) →
      JSs (cxOf (L2.CX P w) P w K mg base N qual scope f cdv A outer s H E) (fun cls d _ H => E cls d H) body g) : FnOk P w K mg base (L2.CX P w) (k + 1) f fd ps (spC K ps.length (conOf ps.length N.length g)) := by
  have hpl : ps.length ≤ N.length := by have := congrArg List.length S.pre; rw [List.length_take] at this; omega
  exact F.ok S (fun vs H Q E h => h.1) fun cdv A outer s H vs Q E hr h => ⟨_, hbody cdv A outer s H E hr, con_ts hpl h⟩
end
end DL
end
section
set_option Elab.async false
set_option linter.all false
set_option maxRecDepth 100000
/-! DL8: the operators and built-ins by values. -/
namespace DL
open PySem PySem.Spec L2
open PyProof.Rows hiding St
variable [Tb0]

def asInts : List D → Option (List Int)
  | [] => some []
  | .int i :: xs => (asInts xs).map (i :: ·)
  | _ => none
def asBls : List D → Option (List Bool)
  | [] => some []
  | .bl i :: xs => (asBls xs).map (i :: ·)
  | _ => none
theorem asInts_eq : ∀ {xs : List D} {ns : List Int}, asInts xs = some ns → xs = ns.map D.int
  | [], ns, e => by cases e; rfl
  | x :: xs, ns, e => by
    cases x with
    | int i =>
      have e : (asInts xs).map (i :: ·) = some ns := e
      cases q : asInts xs with
      | none => rw [q] at e; cases e
      | some ms =>
        rw [q] at e
        cases e
        rw [asInts_eq q]; rfl
    | _ => cases e
theorem asInts_map : ∀ ns : List Int, asInts (ns.map D.int) = some ns
  | [] => rfl
  | n :: ns => by show (asInts (ns.map D.int)).map (n :: ·) = _; rw [asInts_map ns]; rfl
theorem asBls_eq : ∀ {xs : List D} {ns : List Bool}, asBls xs = some ns → xs = ns.map D.bl
  | [], ns, e => by cases e; rfl
  | x :: xs, ns, e => by
    cases x with
    | bl i =>
      have e : (asBls xs).map (i :: ·) = some ns := e
      cases q : asBls xs with
      | none => rw [q] at e; cases e
      | some ms =>
        rw [q] at e
        cases e
        rw [asBls_eq q]; rfl
    | _ => cases e
theorem asBls_map : ∀ ns : List Bool, asBls (ns.map D.bl) = some ns
  | [] => rfl
  | n :: ns => by show (asBls (ns.map D.bl)).map (n :: ·) = _; rw [asBls_map ns]; rfl

section
variable {X : Cx}
/-! ### ints -/
theorem opd_int {f : Value → Value → Sem Value} {C : Int → Int → Prop} [∀ i j, Decidable (C i j)] {g : Int → Int → V} {gd : Int → Int → D} (h : OpR X f (rI C g)) (hg : ∀ i j F, Dq X.K F (g i j) (gd i j)) :
    OpD X f fun x y => match x, y with
      | .int i, .int j => if C i j then some (gd i j) else none
      | _, _ => none := by
  refine ⟨_, h, fun F H v u x y z Q fh qx qy e k => ?_⟩
  cases x with
  | int i =>
    cases y with
    | int j =>
      dsimp only at e
      by_cases c : C i j
      · rw [if_pos c] at e
        cases e
        exact ⟨i, j, qx.int, qy.int, c, k _ F H (Alloc.refl fh) (hg i j F)⟩
      · rw [if_neg c] at e; cases e
    | _ => cases e
  | _ => cases e
theorem OpD.or {f : Value → Value → Sem Value} {o o' : D → D → Option D} (h : OpD X f o) (h' : OpD X f o') : OpD X f fun x y => match o x y with
    | some z => some z
    | none => o' x y := by
  obtain ⟨r, h1, h2⟩ := h
  obtain ⟨r', h1', h2'⟩ := h'
  refine ⟨_, h1.or h1', fun F H v u x y z Q fh qx qy e k => ?_⟩
  dsimp only at e
  cases q : o x y with
  | none => rw [q] at e; exact .inr (h2' F H v u x y z Q fh qx qy e k)
  | some w => rw [q] at e; cases e; exact .inl (h2 F H v u x y _ Q fh qx qy q k)
theorem OpD.eqv {f : Value → Value → Sem Value} {o o' : D → D → Option D} (h : OpD X f o) (e : ∀ x y z, o' x y = some z → o x y = some z) : OpD X f o' := by
  obtain ⟨r, h1, h2⟩ := h
  exact ⟨r, h1, fun F H v u x y z Q fh qx qy ez k => h2 F H v u x y z Q fh qx qy (e _ _ _ ez) k⟩
/-- from a fresh list -/
theorem OpO.toD {f : Value → Value → Sem Value} {o : D → D → Option (List D)} (h : OpO X f o) : OpD X f fun x y => (o x y).map .lst := by
  obtain ⟨r, h1, h2⟩ := h
  refine ⟨r, h1, fun F H v u x y z Q fh qx qy e k => ?_⟩
  dsimp only at e
  cases q : o x y with
  | none => rw [q] at e; cases e
  | some zs =>
    rw [q] at e
    cases e
    refine h2 F H v u x y zs Q fh qx qy q fun p ws hp qw => ?_
    have al := Alloc.new fh hp (.lst ws)
    exact k _ _ _ al (.lst upd_same (qw.m al.ff))
theorem CallO.toD {f : Value} {o : List D → Option (List D)} (h : CallO X f o) : CallD X f fun xs => (o xs).map .lst := by
  obtain ⟨r, h1, h2⟩ := h
  refine ⟨r, h1, fun F H vs xs z Q fh qx e k => ?_⟩
  dsimp only at e
  cases q : o xs with
  | none => rw [q] at e; cases e
  | some zs =>
    rw [q] at e
    cases e
    refine h2 F H vs xs zs Q fh qx q fun p ws hp qw => ?_
    have al := Alloc.new fh hp (.lst ws)
    exact k _ _ _ al (.lst upd_same (qw.m al.ff))
@[simp] def oSub : D → D → Option D
  | .int i, .int j => some (.int (i - j))
  | _, _ => none
theorem od_sub : OpD X (binaryOp .Sub) oSub := by
  refine ⟨_, op_sub, fun F H v u x y z Q fh qx qy e k => ?_⟩
  cases x with
  | int i =>
    cases y with
    | int j => cases e; exact ⟨i, j, qx.int, qy.int, k _ F H (Alloc.refl fh) (.int _)⟩
    | _ => cases e
  | _ => cases e
/-- list + list -/
def oCat : D → D → Option (List D)
  | .lst xs, .lst ys => if xs.length + ys.length ≤ 16777216 then some (xs ++ ys) else none
  | _, _ => none
theorem oo_cat : OpO X (binaryOp .Add) oCat := by
  refine ⟨_, op_cat, fun F H v u x y zs Q fh qx qy e k => ?_⟩
  cases x with
  | lst xs =>
    cases y with
    | lst ys =>
      unfold oCat at e
      dsimp only at e
      by_cases c : xs.length + ys.length ≤ 16777216
      · rw [if_pos c] at e
        cases e
        obtain ⟨a, vs, rfl, h1, h2⟩ := qx.lst fh
        obtain ⟨b, ws, rfl, h3, h4⟩ := qy.lst fh
        exact ⟨a, b, vs, ws, rfl, rfl, h1, h3, by rw [sizeLine_eq, h2.length, h4.length]; exact c, fun p hp => k p _ hp (h2.append h4)⟩
      · rw [if_neg c] at e; cases e
    | _ => cases e
  | _ => cases e
/-- tuple + tuple -/
def oCatT : D → D → Option D
  | .tup xs, .tup ys => if xs.length + ys.length ≤ 16777216 then some (.tup (xs ++ ys)) else none
  | _, _ => none
theorem od_catT : OpD X (binaryOp .Add) oCatT := by
  refine ⟨_, op_catA, fun F H v u x y z Q fh qx qy e k => ?_⟩
  cases x with
  | tup xs =>
    cases y with
    | tup ys =>
      unfold oCatT at e
      dsimp only at e
      by_cases c : xs.length + ys.length ≤ 16777216
      · rw [if_pos c] at e
        cases e
        obtain ⟨a, vs, rfl, h1, h2⟩ := qx.tupF
        obtain ⟨b, ws, rfl, h3, h4⟩ := qy.tupF
        refine ⟨a, b, vs, ws, rfl, rfl, fh.seqT h1, fh.seqT h3, by rw [sizeLine_eq, h2.length, h4.length]; exact c, fun z => ?_, fun _ z => ?_, fun _ _ p hp => ?_⟩
        · have e2 : xs = [] := by
            have := h2.length
            rw [z] at this
            exact List.length_eq_zero_iff.mp this.symm
          rw [e2] at k
          exact k _ F H (Alloc.refl fh) (.tup h3 h4)
        · have e2 : ys = [] := by
            have := h4.length
            rw [z] at this
            exact List.length_eq_zero_iff.mp this.symm
          rw [e2, List.append_nil] at k
          exact k _ F H (Alloc.refl fh) (.tup h1 h2)
        · have al := Alloc.new fh hp (.tup (vs ++ ws))
          exact k _ _ _ al (.tup (.inl (.inl upd_same)) ((h2.append h4).m al.ff))
      · rw [if_neg c] at e; cases e
    | _ => cases e
  | _ => cases e
def oAddI : D → D → Option D
  | .int i, .int j => some (.int (i + j))
  | _, _ => none
theorem od_addI : OpD X (binaryOp .Add) oAddI := by
  refine ⟨_, op_add, fun F H v u x y z Q fh qx qy e k => ?_⟩
  cases x with
  | int i =>
    cases y with
    | int j => cases e; exact ⟨i, j, qx.int, qy.int, k _ F H (Alloc.refl fh) (.int _)⟩
    | _ => cases e
  | _ => cases e
/-- text + text -/
def oAddS : D → D → Option D
  | .str i, .str j => if i.length + j.length ≤ 16777216 then some (.str (i ++ j)) else none
  | _, _ => none
theorem od_addS : OpD X (binaryOp .Add) oAddS := by
  refine ⟨_, op_add_str, fun F H v u x y z Q fh qx qy e k => ?_⟩
  cases x with
  | str i =>
    cases y with
    | str j =>
      unfold oAddS at e
      dsimp only at e
      by_cases c : i.length + j.length ≤ 16777216
      · rw [if_pos c] at e
        cases e
        exact ⟨i, j, qx.str, qy.str, by rw [sizeLine_eq]; exact c, k _ F H (Alloc.refl fh) (.str _)⟩
      · rw [if_neg c] at e; cases e
    | _ => cases e
  | _ => cases e
def oAdd : D → D → Option D
  | .int i, .int j => some (.int (i + j))
  | .tup xs, .tup ys => if xs.length + ys.length ≤ 16777216 then some (.tup (xs ++ ys)) else none
  | .lst xs, .lst ys => if xs.length + ys.length ≤ 16777216 then some (.lst (xs ++ ys)) else none
  | .str i, .str j => if i.length + j.length ≤ 16777216 then some (.str (i ++ j)) else none
  | _, _ => none
theorem od_add : OpD X (binaryOp .Add) oAdd := (od_addI.or (od_catT.or (oo_cat.toD.or od_addS))).eqv fun x y z e => by
  cases x with
  | int i =>
    cases y with
    | int j => exact e
    | _ => cases e
  | tup i =>
    cases y with
    | tup j =>
      unfold oAdd at e
      dsimp only at e
      by_cases c : i.length + j.length ≤ 16777216
      · rw [if_pos c] at e; simp only [oAddI, oCatT, if_pos c]; exact e
      · rw [if_neg c] at e; cases e
    | _ => cases e
  | lst i =>
    cases y with
    | lst j =>
      unfold oAdd at e
      dsimp only at e
      by_cases c : i.length + j.length ≤ 16777216
      · rw [if_pos c] at e; simp only [oAddI, oCatT, oCat, if_pos c]; exact e
      · rw [if_neg c] at e; cases e
    | _ => cases e
  | str i =>
    cases y with
    | str j => exact e
    | _ => cases e
  | _ => cases e
def oMulI : D → D → Option D
  | .int i, .int j => if i.natAbs.log2 + j.natAbs.log2 < 1000000 then some (.int (i * j)) else none
  | _, _ => none
theorem od_mulI : OpD X (binaryOp .Mult) oMulI := by
  refine ⟨_, op_mulW, fun F H v u x y z Q fh qx qy e k => ?_⟩
  cases x with
  | int i =>
    cases y with
    | int j =>
      unfold oMulI at e
      dsimp only at e
      by_cases c : i.natAbs.log2 + j.natAbs.log2 < 1000000
      · rw [if_pos c] at e
        cases e
        exact ⟨i, j, qx.int, qy.int, c, k _ F H (Alloc.refl fh) (.int _)⟩
      · rw [if_neg c] at e; cases e
    | _ => cases e
  | _ => cases e
/-- list * int -/
def oRep : D → D → Option (List D)
  | .lst xs, .int j => if SmI j ∧ xs.length * j.toNat ≤ 16777216 then some (List.replicate j.toNat xs).flatten else none
  | _, _ => none
theorem oo_rep : OpO X (binaryOp .Mult) oRep := by
  refine ⟨_, op_rep, fun F H v u x y zs Q fh qx qy e k => ?_⟩
  cases x with
  | lst xs =>
    cases y with
    | int j =>
      unfold oRep at e
      dsimp only at e
      by_cases c : SmI j ∧ xs.length * j.toNat ≤ 16777216
      · rw [if_pos c] at e
        cases e
        obtain ⟨a, vs, rfl, h1, h2⟩ := qx.lst fh
        exact ⟨a, j, vs, rfl, qy.int, h1, by have := c.1.lo; omega, by have := c.1.hi; omega, by rw [sizeLine_eq, h2.length]; exact c.2, fun p hp => k p _ hp (h2.repL _)⟩
      · rw [if_neg c] at e; cases e
    | _ => cases e
  | _ => cases e
def oMul : D → D → Option D
  | .int i, .int j => if i.natAbs.log2 + j.natAbs.log2 < 1000000 then some (.int (i * j)) else none
  | .lst xs, .int j => if SmI j ∧ xs.length * j.toNat ≤ 16777216 then some (.lst (List.replicate j.toNat xs).flatten) else none
  | _, _ => none
theorem od_mul : OpD X (binaryOp .Mult) oMul := (od_mulI.or oo_rep.toD).eqv fun x y z e => by
  cases x with
  | int i =>
    cases y with
    | int j =>
      unfold oMul at e
      dsimp only at e
      by_cases c : i.natAbs.log2 + j.natAbs.log2 < 1000000
      · rw [if_pos c] at e; simp only [oMulI, if_pos c]; exact e
      · rw [if_neg c] at e; cases e
    | _ => cases e
  | lst i =>
    cases y with
    | int j =>
      unfold oMul at e
      dsimp only at e
      by_cases c : SmI j ∧ i.length * j.toNat ≤ 16777216
      · rw [if_pos c] at e; simp only [oMulI, oRep, if_pos c]; exact e
      · rw [if_neg c] at e; cases e
    | _ => cases e
  | _ => cases e
def oMod : D → D → Option D
  | .int i, .int j => if 0 < j then some (.int (i % j)) else none
  | _, _ => none
theorem od_mod : OpD X (binaryOp .Mod) oMod := (opd_int (C := fun _ j => 0 < j) op_mod fun i j F => .int (i % j)).eqv fun x y z e => by
  cases x with
  | int i => cases y with
    | int j => exact e
    | _ => cases e
  | _ => cases e
def oDiv : D → D → Option D
  | .int i, .int j => if 0 < j ∧ j.natAbs.log2 < 9000 then some (.int (i / j)) else none
  | _, _ => none
instance (i j : Int) : Decidable (CDivW i j) := inferInstanceAs (Decidable (0 < j ∧ j.natAbs.log2 < 9000))
theorem od_div : OpD X (binaryOp .FloorDiv) oDiv := (opd_int (C := CDivW) op_fdivW fun i j F => .int (i / j)).eqv fun x y z e => by
  cases x with
  | int i => cases y with
    | int j => exact e
    | _ => cases e
  | _ => cases e
def CPowW (i j : Int) : Prop := 0 ≤ j ∧ (Builtin.Int.intBits i : Int) * j ≤ 2 ^ 27
instance (i j : Int) : Decidable (CPowW i j) := inferInstanceAs (Decidable (0 ≤ j ∧ (Builtin.Int.intBits i : Int) * j ≤ 2 ^ 27))
theorem op_powW : OpR X (binaryOp .Pow) (rI CPowW fun i j => .int (i ^ j.toNat)) := opI fun _ _ _ _ _ _ _ hc q => pow_int hc.1 hc.2 q
def oPow : D → D → Option D
  | .int i, .int j => if 0 ≤ j ∧ (Builtin.Int.intBits i : Int) * j ≤ 2 ^ 27 then some (.int (i ^ j.toNat)) else none
  | _, _ => none
theorem od_pow : OpD X (binaryOp .Pow) oPow := (opd_int (C := CPowW) op_powW fun i j F => .int (i ^ j.toNat)).eqv fun x y z e => by
  cases x with
  | int i => cases y with
    | int j => exact e
    | _ => cases e
  | _ => cases e
@[simp] def oNeg : D → Option D
  | .int i => some (.int (-i))
  | _ => none
theorem ud_neg : UnD X (unaryOp .USub) oNeg := by
  refine ⟨_, un_neg, fun F H v x z Q fh qx e k => ?_⟩
  cases x with
  | int i => cases e; exact ⟨i, qx.int, k _ F H (Alloc.refl fh) (.int _)⟩
  | _ => cases e
/-! ### comparisons -/
@[simp] def oCmp (g : Int → Int → Bool) : D → D → Option D
  | .int i, .int j => some (.bl (g i j))
  | _, _ => none
theorem od_cmpI {op : CmpOp} {g : Int → Int → Bool} (h : OpR X (compareOp op) (rI0 fun i j => .bl (g i j))) : OpD X (compareOp op) (oCmp g) := by
  refine ⟨_, h, fun F H v u x y z Q fh qx qy e k => ?_⟩
  cases x with
  | int i =>
    cases y with
    | int j => cases e; exact ⟨i, j, qx.int, qy.int, k _ F H (Alloc.refl fh) (.bl _)⟩
    | _ => cases e
  | _ => cases e
abbrev oLt : D → D → Option D := oCmp fun i j => decide (i < j)
abbrev oLe : D → D → Option D := oCmp fun i j => decide (i ≤ j)
abbrev oGt : D → D → Option D := oCmp fun i j => decide (j < i)
abbrev oGe : D → D → Option D := oCmp fun i j => decide (j ≤ i)
theorem od_lt : OpD X (compareOp .Lt) oLt := od_cmpI op_lt
theorem od_le : OpD X (compareOp .LtE) oLe := od_cmpI op_le
theorem od_gt : OpD X (compareOp .Gt) oGt := od_cmpI op_gt
theorem od_ge : OpD X (compareOp .GtE) oGe := od_cmpI op_ge
mutual
def toPy : D → Option PyData
  | .non => some .none
  | .bl b => some (.bool b)
  | .int i => some (.int i)
  | .str x => some (.str x)
  | .tup ds => (toPyA ds).map .tuple
  | .lst ds => (toPyA ds).map .list
  | .glo _ => none
  | .scr _ => none
  | .emp => none
def toPyA : List D → Option (List PyData)
  | [] => some []
  | d :: ds => match toPy d, toPyA ds with
    | some p, some ps => some (p :: ps)
    | _, _ => none
end
section
variable {K : PySem.W.Frag} {F H : Hp}
mutual
theorem dp_of (fh : Same F H) : ∀ {v : V} (d : D) {p : PyData}, Dq K F v d → toPy d = some p → Dp K H v p
  | _, .non, p, h, e => by cases h; simp [toPy] at e; subst e; exact .non
  | _, .bl b, p, h, e => by cases h; simp [toPy] at e; subst e; exact .bl _
  | _, .int i, p, h, e => by cases h; simp [toPy] at e; subst e; exact .int _
  | _, .str i, p, h, e => by cases h; simp [toPy] at e; subst e; exact .str _
  | _, .tup ds, p, h, e => by
    cases h with
    | tup s a =>
      unfold toPy at e
      cases q : toPyA ds with
      | none => rw [q] at e; cases e
      | some ps => rw [q] at e; cases e; exact .tup (fh.seqT s) (dpA_of fh ds a q)
  | _, .lst ds, p, h, e => by
    cases h with
    | lst s a =>
      unfold toPy at e
      cases q : toPyA ds with
      | none => rw [q] at e; cases e
      | some ps => rw [q] at e; cases e; exact .lst (SqL.of (fh _ _ s)) (dpA_of fh ds a q)
  | _, .glo _, p, h, e => by simp [toPy] at e
  | _, .scr _, p, h, e => by simp [toPy] at e
  | _, .emp, p, h, e => by simp [toPy] at e
theorem dpA_of (fh : Same F H) : ∀ {vs : List V} (ds : List D) {ps : List PyData}, DqA K F vs ds → toPyA ds = some ps → DpAll K H vs ps
  | _, [], ps, h, e => by cases h; simp [toPyA] at e; subst e; exact .nil
  | _, d :: ds, ps, h, e => by
    cases h with
    | cons a b =>
      unfold toPyA at e
      cases q : toPy d with
      | none => rw [q] at e; cases e
      | some p =>
        cases q2 : toPyA ds with
        | none => rw [q, q2] at e; cases e
        | some ps2 => rw [q, q2] at e; cases e; exact .cons (dp_of fh d a q) (dpA_of fh ds b q2)
end
theorem Rq.dp (fh : Same F H) {v : V} {d : D} {p : PyData} (h : Rq K F H v d) (e : toPy d = some p) : Dp K H v p := by
  rcases h with h | ⟨a, vs, ds, rfl, rfl, h1, h2⟩
  · exact dp_of fh d h e
  · unfold toPy at e
    cases q : toPyA ds with
    | none => rw [q] at e; cases e
    | some ps => rw [q] at e; cases e; exact .lst (SqL.of h1) (dpA_of fh ds h2 q)
end
/-- == by data -/
def eqPy (x y : D) : Option Bool := match toPy x, toPy y with
  | some p, some q => if SeqAt.shaped p = true ∧ SeqAt.shaped q = true then some (PyData.eqv p q) else none
  | _, _ => none
def oEq (x y : D) : Option D := (eqPy x y).map .bl
def oNe (x y : D) : Option D := (eqPy x y).map fun b => .bl !b
theorem eqPy_some {x y : D} {b : Bool} (e : eqPy x y = some b) : ∃ p q, toPy x = some p ∧ toPy y = some q ∧ SeqAt.shaped p = true ∧ SeqAt.shaped q = true ∧ PyData.eqv p q = b := by
  unfold eqPy at e
  cases h1 : toPy x with
  | none => rw [h1] at e; cases e
  | some p =>
    cases h2 : toPy y with
    | none => rw [h1, h2] at e; cases e
    | some q =>
      rw [h1, h2] at e
      dsimp only at e
      by_cases c : SeqAt.shaped p = true ∧ SeqAt.shaped q = true
      · rw [if_pos c] at e
        exact ⟨p, q, rfl, rfl, c.1, c.2, Option.some.inj e⟩
      · rw [if_neg c] at e; cases e
theorem od_eq (hu : X.A.units + 64 < cLine) : OpD X (compareOp .Eq) oEq := by
  refine ⟨_, op_eqD hu, fun F H v u x y z Q fh qx qy e k => ?_⟩
  unfold oEq at e
  cases q : eqPy x y with
  | none => rw [q] at e; cases e
  | some b =>
    rw [q] at e
    cases e
    obtain ⟨p, q', h1, h2, h3, h4, h5⟩ := eqPy_some q
    rw [← h5] at k
    exact ⟨p, q', qx.dp fh h1, qy.dp fh h2, h3, h4, k _ F H (Alloc.refl fh) (.bl _)⟩
theorem od_ne (hu : X.A.units + 64 < cLine) : OpD X (compareOp .NotEq) oNe := by
  refine ⟨_, op_neD hu, fun F H v u x y z Q fh qx qy e k => ?_⟩
  unfold oNe at e
  cases q : eqPy x y with
  | none => rw [q] at e; cases e
  | some b =>
    rw [q] at e
    cases e
    obtain ⟨p, q', h1, h2, h3, h4, h5⟩ := eqPy_some q
    rw [← h5] at k
    exact ⟨p, q', qx.dp fh h1, qy.dp fh h2, h3, h4, k _ F H (Alloc.refl fh) (.bl _)⟩
/-- is None -/
@[simp] def isNon : D → Bool
  | .non => true
  | _ => false
@[simp] def oIs : D → D → Option D
  | x, .non => some (.bl (isNon x))
  | _, _ => none
@[simp] def oIsNot : D → D → Option D
  | x, .non => some (.bl !(isNon x))
  | _, _ => none
theorem isNon_ok {K : PySem.W.Frag} {F H : Hp} {v : V} {x : D} (h : Rq K F H v x) : decide (v = .non) = isNon x := by
  rcases h with h | ⟨a, vs, ds, rfl, rfl, h1, h2⟩
  · cases h <;> rfl
  · rfl
theorem od_is : OpD X (compareOp .Is) oIs := by
  refine ⟨_, op_isN, fun F H v u x y z Q fh qx qy e k => ?_⟩
  cases y with
  | non =>
    have e : some (D.bl (isNon x)) = some z := e
    cases e
    rw [← isNon_ok qx] at k
    exact ⟨qy.non, k _ F H (Alloc.refl fh) (.bl _)⟩
  | _ => cases e
theorem od_isnot : OpD X (compareOp .IsNot) oIsNot := by
  refine ⟨_, op_notN, fun F H v u x y z Q fh qx qy e k => ?_⟩
  cases y with
  | non =>
    have e : some (D.bl !(isNon x)) = some z := e
    cases e
    rw [← isNon_ok qx] at k
    exact ⟨qy.non, k _ F H (Alloc.refl fh) (.bl _)⟩
  | _ => cases e
/-! ### in -/
def flD : D → Option V
  | .non => some .non
  | .bl b => some (.bl b)
  | .int i => some (.int i)
  | .str x => some (.str x)
  | _ => none
def flA : List D → Option (List V)
  | [] => some []
  | d :: ds => match flD d, flA ds with
    | some v, some vs => some (v :: vs)
    | _, _ => none
theorem flD_ok {K : PySem.W.Frag} {F : Hp} {v w : V} {x : D} (h : Dq K F v x) (e : flD x = some w) : v = w ∧ flatV v = true := by
  cases h <;> (first | (cases e; exact ⟨rfl, rfl⟩) | cases e)
theorem flA_ok {K : PySem.W.Frag} {F : Hp} : ∀ {vs ws : List V} {xs : List D}, DqA K F vs xs → flA xs = some ws → vs = ws ∧ vs.all flatV = true
  | _, ws, [], .nil, e => by cases e; exact ⟨rfl, rfl⟩
  | _, ws, x :: xs, .cons q qs, e => by
    unfold flA at e
    cases h1 : flD x with
    | none => rw [h1] at e; cases e
    | some w =>
      cases h2 : flA xs with
      | none => rw [h1, h2] at e; cases e
      | some ws' =>
        rw [h1, h2] at e
        cases e
        obtain ⟨e1, f1⟩ := flD_ok q h1
        obtain ⟨e2, f2⟩ := flA_ok qs h2
        exact ⟨by rw [e1, e2], by rw [List.all_cons, f1, f2]; rfl⟩
def inPy (x : D) (ys : List D) : Option Bool := match flD x, flA ys with
  | some v, some vs => some (inV v vs)
  | _, _ => none
def oIn : D → D → Option D
  | x, .tup ys => (inPy x ys).map .bl
  | x, .lst ys => (inPy x ys).map .bl
  | _, _ => none
def oNotIn : D → D → Option D
  | x, .tup ys => (inPy x ys).map fun b => .bl !b
  | x, .lst ys => (inPy x ys).map fun b => .bl !b
  | _, _ => none
theorem inPy_some {x : D} {ys : List D} {b : Bool} (e : inPy x ys = some b) : ∃ v vs, flD x = some v ∧ flA ys = some vs ∧ b = inV v vs := by
  unfold inPy at e
  cases h1 : flD x with
  | none => rw [h1] at e; cases e
  | some w =>
    cases h2 : flA ys with
    | none => rw [h1, h2] at e; cases e
    | some ws' => rw [h1, h2] at e; cases e; exact ⟨w, ws', rfl, rfl, rfl⟩
theorem Rq.fl {K : PySem.W.Frag} {F H : Hp} {v w : V} {x : D} (h : Rq K F H v x) (e : flD x = some w) : v = w ∧ flatV v = true := by
  rcases h with h | ⟨a, vs, ds, rfl, rfl, h1, h2⟩
  · exact flD_ok h e
  · cases e
theorem od_in : OpD X (compareOp .In) oIn := by
  refine ⟨_, op_in_seq, fun F H v u x y z Q fh qx qy e k => ?_⟩
  cases y with
  | tup ys =>
    have e : (inPy x ys).map D.bl = some z := e
    cases q : inPy x ys with
    | none => rw [q] at e; cases e
    | some b =>
      rw [q] at e
      cases e
      obtain ⟨w, ws, h1, h2, rfl⟩ := inPy_some q
      obtain ⟨rfl, f1⟩ := qx.fl h1
      obtain ⟨a, vs, rfl, h3, h4⟩ := qy.tup fh
      obtain ⟨rfl, f2⟩ := flA_ok h4 h2
      exact ⟨a, vs, rfl, .inr h3, f1, f2, k _ F H (Alloc.refl fh) (.bl _)⟩
  | lst ys =>
    have e : (inPy x ys).map D.bl = some z := e
    cases q : inPy x ys with
    | none => rw [q] at e; cases e
    | some b =>
      rw [q] at e
      cases e
      obtain ⟨w, ws, h1, h2, rfl⟩ := inPy_some q
      obtain ⟨rfl, f1⟩ := qx.fl h1
      obtain ⟨a, vs, rfl, h3, h4⟩ := qy.lst fh
      obtain ⟨rfl, f2⟩ := flA_ok h4 h2
      exact ⟨a, vs, rfl, .inl (SqL.of h3), f1, f2, k _ F H (Alloc.refl fh) (.bl _)⟩
  | _ => cases x <;> cases e
theorem od_notin : OpD X (compareOp .NotIn) oNotIn := by
  refine ⟨_, op_notIn_seq, fun F H v u x y z Q fh qx qy e k => ?_⟩
  cases y with
  | tup ys =>
    have e : (inPy x ys).map (fun b => D.bl !b) = some z := e
    cases q : inPy x ys with
    | none => rw [q] at e; cases e
    | some b =>
      rw [q] at e
      cases e
      obtain ⟨w, ws, h1, h2, rfl⟩ := inPy_some q
      obtain ⟨rfl, f1⟩ := qx.fl h1
      obtain ⟨a, vs, rfl, h3, h4⟩ := qy.tup fh
      obtain ⟨rfl, f2⟩ := flA_ok h4 h2
      exact ⟨a, vs, rfl, .inr h3, f1, f2, k _ F H (Alloc.refl fh) (.bl _)⟩
  | lst ys =>
    have e : (inPy x ys).map (fun b => D.bl !b) = some z := e
    cases q : inPy x ys with
    | none => rw [q] at e; cases e
    | some b =>
      rw [q] at e
      cases e
      obtain ⟨w, ws, h1, h2, rfl⟩ := inPy_some q
      obtain ⟨rfl, f1⟩ := qx.fl h1
      obtain ⟨a, vs, rfl, h3, h4⟩ := qy.lst fh
      obtain ⟨rfl, f2⟩ := flA_ok h4 h2
      exact ⟨a, vs, rfl, .inl (SqL.of h3), f1, f2, k _ F H (Alloc.refl fh) (.bl _)⟩
  | _ => cases x <;> cases e
/-! ### built-ins -/
@[simp] def oLen : List D → Option D
  | [.lst xs] => some (.int xs.length)
  | [.tup xs] => some (.int xs.length)
  | [.scr xs] => some (.int xs.length)
  | [.str x] => if x.length ≤ 16777216 then some (.int x.length) else none
  | _ => none
theorem cd_len : CallD X (.builtin "len") oLen := by
  refine ⟨_, call_len, fun F H vs xs z Q fh qx e k => ?_⟩
  match xs, qx, e with
  | [x], qx, e =>
    obtain ⟨v, rfl, q⟩ := qx.one
    cases x with
    | lst xs =>
      cases e
      obtain ⟨a, ws, rfl, h1, h2⟩ := q.lst fh
      exact ⟨_, xs.length, rfl, .inl ⟨ws, SqL.of h1, h2.length.symm⟩, k _ F H (Alloc.refl fh) (.int _)⟩
    | tup xs =>
      cases e
      obtain ⟨a, ws, rfl, h1, h2⟩ := q.tup fh
      exact ⟨_, xs.length, rfl, .inr ⟨ws, h1, h2.length.symm⟩, k _ F H (Alloc.refl fh) (.int _)⟩
    | scr xs =>
      cases e
      obtain ⟨a, rfl, h1⟩ := q.scr fh
      exact ⟨_, xs.length, rfl, .inl ⟨_, h1, by rw [List.length_map]⟩, k _ F H (Alloc.refl fh) (.int _)⟩
    | str x =>
      unfold oLen at e
      dsimp only at e
      by_cases c : x.length ≤ 16777216
      · rw [if_pos c] at e
        cases e
        cases q.str
        exact ⟨_, x.length, rfl, ⟨by rw [sizeLine_eq]; exact c, rfl⟩, k _ F H (Alloc.refl fh) (.int _)⟩
      · rw [if_neg c] at e; cases e
    | _ => cases e
  | [], qx, e => cases e
  | _ :: _ :: _, qx, e => simp [oLen] at e
@[simp] def oTuple : List D → Option D
  | [.lst xs] => some (.tup xs)
  | [.tup xs] => some (.tup xs)
  | _ => none
theorem cd_tuple : CallD X (.type "tuple") oTuple := by
  refine ⟨_, call_tuple_of, fun F H vs xs z Q fh qx e k => ?_⟩
  match xs, qx, e with
  | [x], qx, e =>
    obtain ⟨v, rfl, q⟩ := qx.one
    cases x with
    | lst xs =>
      cases e
      obtain ⟨a, ws, rfl, h1, h2⟩ := q.lst fh
      refine ⟨a, ws, rfl, .inl ⟨SqL.of h1, fun p hp => ?_⟩⟩
      have al := Alloc.new fh hp (.tup ws)
      exact k _ _ _ al (.tup (.inl (.inl upd_same)) (h2.m al.ff))
    | tup xs =>
      cases e
      obtain ⟨a, ws, rfl, h1, h2⟩ := q.tupF
      exact ⟨a, ws, rfl, .inr ⟨fh.seqT h1, k _ F H (Alloc.refl fh) (.tup h1 h2)⟩⟩
    | _ => cases e
  | [], qx, e => cases e
  | _ :: _ :: _, qx, e => simp [oTuple] at e
@[simp] def oList : List D → Option (List D)
  | [.lst xs] => some xs
  | [.tup xs] => some xs
  | _ => none
theorem co_list : CallO X (.type "list") oList := by
  refine ⟨_, call_list_of, fun F H vs xs zs Q fh qx e k => ?_⟩
  match xs, qx, e with
  | [x], qx, e =>
    obtain ⟨v, rfl, q⟩ := qx.one
    cases x with
    | lst xs =>
      cases e
      obtain ⟨a, ws, rfl, h1, h2⟩ := q.lst fh
      exact ⟨a, ws, rfl, .inl (SqL.of h1), fun p hp => k p ws hp h2⟩
    | tup xs =>
      cases e
      obtain ⟨a, ws, rfl, h1, h2⟩ := q.tup fh
      exact ⟨a, ws, rfl, .inr h1, fun p hp => k p ws hp h2⟩
    | _ => cases e
  | [], qx, e => cases e
  | _ :: _ :: _, qx, e => simp [oList] at e
@[simp] def oInt : List D → Option D
  | [.int i] => some (.int i)
  | [.bl b] => some (.int (if b then 1 else 0))
  | _ => none
theorem cd_int : CallD X (.type "int") oInt := by
  refine ⟨_, call_int1, fun F H vs xs z Q fh qx e k => ?_⟩
  match xs, qx, e with
  | [x], qx, e =>
    obtain ⟨v, rfl, q⟩ := qx.one
    cases x with
    | int i => cases e; cases q.int; exact .inl ⟨i, rfl, k _ F H (Alloc.refl fh) (.int _)⟩
    | bl i => cases e; cases q.bl; exact .inr ⟨i, rfl, k _ F H (Alloc.refl fh) (.int _)⟩
    | _ => cases e
  | [], qx, e => cases e
  | _ :: _ :: _, qx, e => simp [oInt] at e
@[simp] def oAbs : List D → Option D
  | [.int i] => some (.int (if i < 0 then -i else i))
  | _ => none
theorem cd_abs : CallD X (.builtin "abs") oAbs := by
  refine ⟨_, call_abs, fun F H vs xs z Q fh qx e k => ?_⟩
  match xs, qx, e with
  | [x], qx, e =>
    obtain ⟨v, rfl, q⟩ := qx.one
    cases x with
    | int i => cases e; cases q.int; exact ⟨i, rfl, k _ F H (Alloc.refl fh) (.int _)⟩
    | _ => cases e
  | [], qx, e => cases e
  | _ :: _ :: _, qx, e => simp [oAbs] at e
@[simp] def oMax : List D → Option D
  | [.int i, .int j] => some (.int (if j > i then j else i))
  | _ => none
@[simp] def oMin : List D → Option D
  | [.int i, .int j] => some (.int (if j < i then j else i))
  | _ => none
theorem cd_max (hc : X.calm = true) : CallD X (.builtin "max") oMax := by
  refine ⟨_, call_max2 hc, fun F H vs xs z Q fh qx e k => ?_⟩
  match xs, qx, e with
  | [x, y], qx, e =>
    obtain ⟨v, u, rfl, q, q'⟩ := qx.two
    cases x with
    | int i =>
      cases y with
      | int j => cases e; cases q.int; cases q'.int; exact ⟨i, j, rfl, k _ F H (Alloc.refl fh) (.int _)⟩
      | _ => cases e
    | _ => cases e
  | [], qx, e => cases e
  | [_], qx, e => simp [oMax] at e
  | _ :: _ :: _ :: _, qx, e => simp [oMax] at e
theorem cd_min (hc : X.calm = true) : CallD X (.builtin "min") oMin := by
  refine ⟨_, call_min2 hc, fun F H vs xs z Q fh qx e k => ?_⟩
  match xs, qx, e with
  | [x, y], qx, e =>
    obtain ⟨v, u, rfl, q, q'⟩ := qx.two
    cases x with
    | int i =>
      cases y with
      | int j => cases e; cases q.int; cases q'.int; exact ⟨i, j, rfl, k _ F H (Alloc.refl fh) (.int _)⟩
      | _ => cases e
    | _ => cases e
  | [], qx, e => cases e
  | [_], qx, e => simp [oMin] at e
  | _ :: _ :: _ :: _, qx, e => simp [oMin] at e
def oAll : List D → Option D
  | [.lst xs] => (asBls xs).map fun bs => .bl (bs.all id)
  | _ => none
def oAny : List D → Option D
  | [.lst xs] => (asBls xs).map fun bs => .bl (bs.any id)
  | _ => none
theorem cd_all (hc : X.calm = true) : CallD X (.builtin "all") oAll := by
  refine ⟨_, cr_all hc, fun F H vs xs z Q fh qx e k => ?_⟩
  match xs, qx, e with
  | [x], qx, e =>
    obtain ⟨v, rfl, q⟩ := qx.one
    cases x with
    | lst xs =>
      have e : (asBls xs).map (fun bs => D.bl (bs.all id)) = some z := e
      cases q2 : asBls xs with
      | none => rw [q2] at e; cases e
      | some bs =>
        rw [q2] at e
        cases e
        obtain ⟨a, ws, rfl, h1, h2⟩ := q.lst fh
        rw [asBls_eq q2] at h2
        rw [h2.bls] at h1
        exact ⟨a, bs, rfl, SqL.of h1, k _ F H (Alloc.refl fh) (.bl _)⟩
    | _ => cases e
  | [], qx, e => cases e
  | _ :: _ :: _, qx, e => simp [oAll] at e
theorem cd_any (hc : X.calm = true) : CallD X (.builtin "any") oAny := by
  refine ⟨_, cr_any hc, fun F H vs xs z Q fh qx e k => ?_⟩
  match xs, qx, e with
  | [x], qx, e =>
    obtain ⟨v, rfl, q⟩ := qx.one
    cases x with
    | lst xs =>
      have e : (asBls xs).map (fun bs => D.bl (bs.any id)) = some z := e
      cases q2 : asBls xs with
      | none => rw [q2] at e; cases e
      | some bs =>
        rw [q2] at e
        cases e
        obtain ⟨a, ws, rfl, h1, h2⟩ := q.lst fh
        rw [asBls_eq q2] at h2
        rw [h2.bls] at h1
        exact ⟨a, bs, rfl, SqL.of h1, k _ F H (Alloc.refl fh) (.bl _)⟩
    | _ => cases e
  | [], qx, e => cases e
  | _ :: _ :: _, qx, e => simp [oAny] at e
/-! ### subscripts, slices -/
@[simp] def oIx : D → D → Option D
  | .lst xs, .int i => atI xs i
  | .tup xs, .int i => atI xs i
  | .scr ns, .int i => (atI ns i).map .int
  | _, _ => none
theorem atI_rel {α β : Type} {R : α → β → Prop} {xs : List α} {ys : List β} {i : Int} {y : β} (hl : xs.length = ys.length) (h : ∀ (j : Nat) y, ys[j]? = some y → ∃ x, xs[j]? = some x ∧ R x y) (e : atI ys i = some y) : ∃ x, atI xs i = some x ∧ R x y := by
  unfold atI at e ⊢
  rw [hl]
  cases q : ixN ys.length i with
  | none => rw [q] at e; cases e
  | some j => rw [q] at e; exact h j y e
theorem ixd : IxD X oIx := by
  refine ⟨_, ix_list.or ix_tup, fun F H v u x y z Q fh qx qy e k => ?_⟩
  cases y with
  | int i =>
    cases qy.int
    cases x with
    | lst xs =>
      obtain ⟨a, ws, rfl, h1, h2⟩ := qx.lst fh
      obtain ⟨w, e1, e2⟩ := atI_rel (R := Dq X.K F) h2.length (fun j y hy => h2.get hy) e
      exact .inl ⟨a, ws, i, w, rfl, rfl, SqL.of h1, e1, k _ F H (Alloc.refl fh) e2⟩
    | tup xs =>
      obtain ⟨a, ws, rfl, h1, h2⟩ := qx.tup fh
      obtain ⟨w, e1, e2⟩ := atI_rel (R := Dq X.K F) h2.length (fun j y hy => h2.get hy) e
      exact .inr ⟨a, ws, i, w, rfl, rfl, h1, e1, k _ F H (Alloc.refl fh) e2⟩
    | scr ns =>
      obtain ⟨a, rfl, h1⟩ := qx.scr fh
      have e : (atI ns i).map D.int = some z := e
      cases q : atI ns i with
      | none => rw [q] at e; cases e
      | some m =>
        rw [q] at e
        cases e
        obtain ⟨w, e1, e2⟩ := atI_rel (R := fun (w : V) (m : Int) => w = .int m) (xs := ns.map V.int) (by rw [List.length_map]) (fun j y hy => ⟨.int y, by rw [List.getElem?_map, hy]; rfl, rfl⟩) q
        subst e2
        exact .inl ⟨a, _, i, _, rfl, rfl, h1, e1, k _ F H (Alloc.refl fh) (.int _)⟩
    | _ => cases e
  | _ => cases x <;> cases e
def cutG {α : Type} (xs : List α) (lo hi : Option Int) : List α := (xs.drop (HT.sIx xs.length 0 lo)).take (HT.sIx xs.length xs.length hi - HT.sIx xs.length 0 lo)
theorem DqA.cut {K : PySem.W.Frag} {F : Hp} {vs : List V} {ds : List D} (h : DqA K F vs ds) (lo hi : Option Int) : DqA K F (cutV vs lo hi) (cutG ds lo hi) := by
  unfold cutV cutG
  rw [h.length]
  exact (h.drop _).take _
@[simp] def oSl : D → Option Int → Option Int → Option D
  | .lst xs, lo, hi => some (.lst (cutG xs lo hi))
  | .tup xs, lo, hi => some (.tup (cutG xs lo hi))
  | _, _, _ => none
theorem sld : SlD X oSl := by
  refine ⟨_, sl_list.or sl_tupA, fun F H v x lo hi z Q fh qx e k => ?_⟩
  cases x with
  | lst xs =>
    cases e
    obtain ⟨a, ws, rfl, h1, h2⟩ := qx.lst fh
    refine .inl ⟨a, ws, rfl, SqL.of h1, fun p hp => ?_⟩
    have al := Alloc.new fh hp (.lst (cutV ws lo hi))
    exact k _ _ _ al (.lst upd_same ((h2.cut lo hi).m al.ff))
  | tup xs =>
    cases e
    obtain ⟨a, ws, rfl, h1, h2⟩ := qx.tupF
    refine .inr ⟨a, ws, rfl, fh.seqT h1, fun c => ?_, fun _ p hp => ?_⟩
    · have e : cutG xs lo hi = xs := by
        unfold cutG
        rw [← h2.length, c.1, c.2, List.drop_zero, Nat.sub_zero, h2.length, List.take_length]
      rw [e] at k
      exact k _ F H (Alloc.refl fh) (.tup h1 h2)
    · have al := Alloc.new fh hp (.tup (cutV ws lo hi))
      exact k _ _ _ al (.tup (.inl (.inl upd_same)) ((h2.cut lo hi).m al.ff))
  | _ => cases e
end
end DL
end
section
set_option Elab.async false
set_option linter.all false
set_option maxRecDepth 100000
/-! DL9: methods that change, stores, two stores at once, isinstance, ranges as values. -/
namespace DL
open PySem PySem.Spec L2
open PyProof.Rows hiding St
variable [Tb0]

/-- a slot has a list of one's own -/
def dOwn (i : Nat) : M Unit := fun ρ => match ρ[i]? with
  | some (.o _ _) => some (.ok (), ρ)
  | _ => none
/-- a slot's own list, changed -/
def chO (i : Nat) (g : List D → Option (List D)) : M Unit := fun ρ => match ρ[i]? with
  | some (.o b xs) => (match g xs with
    | some ys => some (.ok (), ρ.set i (.o b ys))
    | none => none)
  | _ => none
@[simp] def appD (x : D) (xs : List D) : Option (List D) := if xs.length < 16777216 then some (xs ++ [x]) else none
def extD (ys xs : List D) : Option (List D) := if xs.length + ys.length ≤ 16777216 then some (xs ++ ys) else none
@[simp] def putD (k : Int) (x : D) (xs : List D) : Option (List D) := (ixN xs.length k).map fun j => xs.set j x
/-- x.append(e), x.extend(e) -/
def dAppend (i : Nat) (f : M Hd) : M Hd := bnd (dOwn i) fun _ => bnd (bnd f cl) fun x => bnd (chO i (appD x)) fun _ => pur (.d .non)
def dExtend (i : Nat) (f : M Hd) : M Hd := bnd (dOwn i) fun _ => bnd (bnd f cl) fun x => bnd (lft (lstD x)) fun ys => bnd (chO i (extD ys)) fun _ => pur (.d .non)
/-- x[k] = e -/
def sSetIx (i : Nat) (fk fe : M Hd) : MS := ex (bnd (bnd fe cl) fun x => bnd (dOwn i) fun _ => bnd fk fun h => bnd (res h) fun kd => bnd (lft (intD kd)) fun k => chO i (putD k x)) fun _ ρ => some (.nx, ρ)
section
variable {K : PySem.W.Frag} {Wx : WX} {W : Wd} {ρ ρ' : Rho} {σ : St} {F F' H H' : Hp}
theorem RunAt.bp {β : Type} {m : M β} {κ : Rho → β → Hp → Hp → Prop} (R : RunAt K Wx m W ρ σ F κ) : RunAt K Wx (bnd m fun x => DL.pur x) W ρ σ F κ := by
  obtain ⟨r, ρ', e, q⟩ := R
  cases r with
  | ok a => exact ⟨.ok a, ρ', by unfold bnd; rw [e]; rfl, q⟩
  | error x => exact ⟨.error x, ρ', by unfold bnd; rw [e], q⟩
theorem RunAt.own {β : Type} {i : Nat} {k : Unit → M β} {κ : Rho → β → Hp → Hp → Prop} (R : RunAt K Wx (bnd (dOwn i) k) W ρ σ F κ) (S : StOk K W ρ σ F H) : ∃ a vs, σ[i]? = some (some (.ref a)) ∧ H a = some (.lst vs) ∧ RunAt K Wx (k ()) W ρ σ F κ := by
  obtain ⟨r, ρ', e, q⟩ := R
  unfold bnd dOwn at e
  cases hi : ρ[i]? with
  | none => rw [hi] at e; cases e
  | some s =>
    rw [hi] at e
    cases s with
    | no => cases e
    | d x => cases e
    | o b xs =>
      obtain ⟨a, h1, ⟨vs, h2, h3⟩, _⟩ := S.own hi
      exact ⟨a, vs, h1, h2, r, ρ', e, q⟩
theorem RunAt.chO {β : Type} {i : Nat} {g : List D → Option (List D)} {k : Unit → M β} {κ : Rho → β → Hp → Hp → Prop} (R : RunAt K Wx (bnd (chO i g) k) W ρ σ F κ) :
    ∃ b xs ys, ρ[i]? = some (.o b xs) ∧ g xs = some ys ∧ RunAt K Wx (k ()) W (ρ.set i (.o b ys)) σ F κ := by
  obtain ⟨r, ρ', e, q⟩ := R
  unfold bnd DL.chO at e
  cases hi : ρ[i]? with
  | none => rw [hi] at e; cases e
  | some s =>
    rw [hi] at e
    cases s with
    | no => cases e
    | d x => cases e
    | o b xs =>
      dsimp only at e
      cases hg : g xs with
      | none => rw [hg] at e; cases e
      | some ys => rw [hg] at e; exact ⟨b, xs, ys, rfl, hg, r, ρ', e, q⟩
theorem RunAt.bcl2 {β : Type} {f : M Hd} {k : D → M β} {κ : Rho → β → Hp → Hp → Prop} (R : RunAt K Wx (bnd (bnd f DL.cl) k) W ρ σ F κ) : RunAt K Wx f W ρ σ F fun ρ1 h F1 H1 => StOk K W ρ1 σ F1 H1 → ∀ v, HdOk K F1 σ h v →
    ∃ x ρ2 F2, StOk K W ρ2 σ F2 H1 ∧ Same F1 F2 ∧ Dq K F2 v x ∧ RunAt K Wx (k x) W ρ2 σ F2 κ := by
  rw [bnd_assoc] at R
  exact R.bind.imp fun ρ1 h F1 H1 S1 s1 R1 _ v hv => R1.cl S1 hv
theorem listTy {a : Addr} {vs : List V} (h : H a = some (.lst vs)) : tyV K "list" (.ref a) H := .inl ⟨rfl, vs, SqL.of h⟩
/-- what a slot's list is once more, later -/
theorem own_again {i : Nat} {b : Option Nat} {xs : List D} {a : Addr} (S : StOk K W ρ σ F H) (e : ρ[i]? = some (.o b xs)) (h : σ[i]? = some (some (.ref a))) : ∃ vs, H a = some (.lst vs) ∧ DqA K F vs xs := by
  obtain ⟨a', h1, ⟨vs, h2, h3⟩, _⟩ := S.own e
  rw [h1] at h
  injection h with h
  injection h with h
  injection h with h
  subst h
  exact ⟨vs, h2, h3⟩
end

section
variable {X : Cx} {Wx : WX} {e a b c tg : Expr} {es : List Expr} {pos p apos cpos : Pos}
theorem je_append {x : Str} {f : M Hd} (i : Nat) (he : JE X Wx e f) (hN : X.N[i]? = some x := by rfl) (hv : Vis X.env.scope x := by first | exact Or.inl rfl | exact Or.inr (Or.inl rfl) | exact Or.inr (Or.inr rfl)) (hd : (x == ("__debug__" : Str)) = false := by decide) (hcd : (x == ("__classdict__" : Str)) = false := by decide)
    (hbase : attributeBase (.Name x p) "append" X.env (eval (.Name x p) X.env) = eval (.Name x p) X.env := by rfl)
    (hfew : ((backTo cpos (starEach [e] X.env)).all (fun x => !x.1) && (backToKw cpos (keywordEach [] X.env)).all (fun x => x.1.isSome) && decide ([e].length + ([] : List Keyword).length + (if ([] : List Keyword).isEmpty then 0 else 1) < 30)) = true := by rfl)
    (hline : (apos.endLine == cpos.line) = true := by rfl) (hs : starEach [e] X.env = (false, eval e X.env) :: starEach [] X.env := by rfl) (hpl : (backTo cpos (starEach [] X.env)).any (·.1) = false := by rfl) :
    JE X Wx (.Call (.Attribute (.Name x p) "append" apos) [e] [] cpos) (dAppend i f) :=
  PE.imp (pe_bm PySem.F.plainAttrs_list PySem.F.slot_list_append PySem.F.type_list_append mt_append (pe_var hN hv hd hcd) (pa_cons he pa_nil hs) hbase hfew hline hs hpl) fun σ H Q ⟨W, F, ρ, S, R⟩ => by
    obtain ⟨a, vs, g1, g2, R1⟩ := R.own S
    refine ⟨_, g1, listTy g2, W, F, ρ, S, R1.bcl2.imp fun ρ1 h F1 H1 S1 s1 k u hu => ?_⟩
    obtain ⟨x0, ρ2, F2, S2, s2, qx, R2⟩ := k S1 u hu
    obtain ⟨b, xs, ys, e1, e2, R3⟩ := R2.chO
    obtain ⟨vs, h2, h3⟩ := own_again S2 e1 g1
    unfold appD at e2
    by_cases c : xs.length < 16777216
    · rw [if_pos c] at e2
      cases e2
      exact ⟨a, vs, u, rfl, rfl, h2, by rw [h3.length, sizeLine_eq]; exact c, R3.pur (S2.write e1 g1 (h3.append (.one qx))) (Same.refl _) _ .non⟩
    · rw [if_neg c] at e2; cases e2
theorem je_extend {x : Str} {f : M Hd} (i : Nat) (he : JE X Wx e f) (hN : X.N[i]? = some x := by rfl) (hv : Vis X.env.scope x := by first | exact Or.inl rfl | exact Or.inr (Or.inl rfl) | exact Or.inr (Or.inr rfl)) (hd : (x == ("__debug__" : Str)) = false := by decide) (hcd : (x == ("__classdict__" : Str)) = false := by decide)
    (hbase : attributeBase (.Name x p) "extend" X.env (eval (.Name x p) X.env) = eval (.Name x p) X.env := by rfl)
    (hfew : ((backTo cpos (starEach [e] X.env)).all (fun x => !x.1) && (backToKw cpos (keywordEach [] X.env)).all (fun x => x.1.isSome) && decide ([e].length + ([] : List Keyword).length + (if ([] : List Keyword).isEmpty then 0 else 1) < 30)) = true := by rfl)
    (hline : (apos.endLine == cpos.line) = true := by rfl) (hs : starEach [e] X.env = (false, eval e X.env) :: starEach [] X.env := by rfl) (hpl : (backTo cpos (starEach [] X.env)).any (·.1) = false := by rfl) :
    JE X Wx (.Call (.Attribute (.Name x p) "extend" apos) [e] [] cpos) (dExtend i f) :=
  PE.imp (pe_bm PySem.F.plainAttrs_list PySem.F.slot_list_extend PySem.F.type_list_extend mt_extend (pe_var hN hv hd hcd) (pa_cons he pa_nil hs) hbase hfew hline hs hpl) fun σ H Q ⟨W, F, ρ, S, R⟩ => by
    obtain ⟨a, vs, g1, g2, R1⟩ := R.own S
    refine ⟨_, g1, listTy g2, W, F, ρ, S, R1.bcl2.imp fun ρ1 h F1 H1 S1 s1 k u hu => ?_⟩
    obtain ⟨x0, ρ2, F2, S2, s2, qx, R2⟩ := k S1 u hu
    obtain ⟨zs, ez, R2⟩ := R2.lft
    obtain ⟨b, xs, ys, e1, e2, R3⟩ := R2.chO
    obtain ⟨vs, h2, h3⟩ := own_again S2 e1 g1
    cases x0 with
    | lst ds =>
      cases ez
      cases qx with
      | lst k1 k2 =>
        unfold extD at e2
        by_cases c : xs.length + zs.length ≤ 16777216
        · rw [if_pos c] at e2
          cases e2
          exact ⟨a, _, vs, _, rfl, rfl, h2, S2.fh _ _ k1, by rw [h3.length, k2.length, sizeLine_eq]; exact c, R3.pur (S2.write e1 g1 (h3.append k2)) (Same.refl _) _ .non⟩
        · rw [if_neg c] at e2; cases e2
    | _ => cases ez
theorem js_setIx {x : Str} {p2 : Pos} {fk fe : M Hd} (i : Nat) (he : JE X Wx e fe) (hk : JE X Wx b fk) (hN : X.N[i]? = some x := by rfl) (hv : Vis X.env.scope x := by first | exact Or.inl rfl | exact Or.inr (Or.inl rfl) | exact Or.inr (Or.inr rfl)) (hd : (x == ("__debug__" : Str)) = false := by decide) (hcd : (x == ("__classdict__" : Str)) = false := by decide)
    (hs : swapsWithSole [.Subscript (.Name x p) b p2] e pos.line X.env = pure false := by rfl) (hw : swappedStores [.Subscript (.Name x p) b p2] e X.env = pure none := by rfl)
    (h1 : (assignEach [.Subscript (.Name x p) b p2] X.env).map (·.2) = [assign (.Subscript (.Name x p) b p2) X.env] := by rfl)
    (ha : ∀ v, assign (.Subscript (.Name x p) b p2) X.env v = (do
      let ov ← holding [v] (eval (.Name x p) X.env)
      let iv ← holding [v, ov] (eval b X.env)
      standAt p2
      holding [v, ov, iv] (setItem ov iv v)
      release [v, ov, iv] []) := by intro _; rfl) : JS X Wx (.Assign [.Subscript (.Name x p) b p2] e pos) (sSetIx i fk fe) :=
  PS.imp (ps_asg he (pg_sub (pe_var hN hv hd hcd) hk set_list ha) hs hw h1) fun D σ H ⟨W, F, ρ, S, R⟩ => by
    refine ⟨W, F, ρ, S, ((SAt.ex (σ := σ) R).bcl2).imp fun ρ1 h F1 H1 S1 s1 k u hu => ?_⟩
    obtain ⟨x0, ρ2, F2, S2, s2, qx, R2⟩ := k S1 u hu
    obtain ⟨a, vs, g1, g2, R3⟩ := R2.own S2
    refine ⟨_, g1, W, F2, ρ2, S2, R3.bind.imp fun ρ3 hk F3 H3 S3 s3 R4 w hw => ?_⟩
    obtain ⟨kd, qk, R5⟩ := R4.res S3 hw
    obtain ⟨k0, ek, R6⟩ := R5.lft
    cases kd with
    | int k1 =>
      cases ek
      obtain ⟨b0, xs, ys, e1, e2, R8⟩ := R6.bp.chO
      obtain ⟨vs, h2, h3⟩ := own_again S3 e1 g1
      unfold putD at e2
      cases ej : ixN xs.length k0 with
      | none => rw [ej] at e2; cases e2
      | some j =>
        rw [ej] at e2
        cases e2
        obtain ⟨fl, ρ9, e9, fin⟩ := R8.pur (S3.write e1 g1 (h3.set j (qx.m s3))) (Same.refl _)
        cases e9
        rw [qk.int]
        exact ⟨a, vs, k0, j, rfl, rfl, h2, by rw [h3.length]; exact ej, fin _ _ _ (S3.write e1 g1 (h3.set j (qx.m s3))) (Same.refl _)⟩
    | _ => cases ek

/-! ### isinstance of built-in classes -/
@[simp] def tyD : D → Option String
  | .non => some "NoneType"
  | .bl _ => some "bool"
  | .int _ => some "int"
  | .str _ => some "str"
  | .tup _ => some "tuple"
  | .lst _ => some "list"
  | .emp => some "dict"
  | _ => none
/-- of the built-in class T: the classes' names by which it is so -/
@[simp] def isiT (T : String) (d : D) : Option D := (tyD d).map fun t => .bl (t == T || (T == "int" && t == "bool"))
def dIsi (T : String) (f : M Hd) : M Hd := dUn (isiT T) f
theorem tyx_of {K : PySem.W.Frag} {F H : Hp} {v : V} {d : D} {t : String} (fh : Same F H) (q : Rq K F H v d) (e : tyD d = some t) : TyX K H v (.type t) := by
  cases d with
  | non => cases q.non; cases e; exact .base .non
  | bl b => cases q.bl; cases e; exact .base (.bl _)
  | int i => cases q.int; cases e; exact .base (.int _)
  | str i => cases q.str; cases e; exact .base (.str _)
  | tup ds =>
    cases e
    obtain ⟨a, vs, rfl, h1, h2⟩ := q.tup fh
    rcases h1 with (h1 | ⟨o, h1⟩) | ⟨o, its, n, h1, h2, _⟩
    · exact .base (.tup h1)
    · exact .fTuple h1
    · exact .kTuple h1 h2
  | lst ds =>
    cases e
    obtain ⟨a, vs, rfl, h1, h2⟩ := q.lst fh
    exact .base (.lst h1)
  | glo _ => cases e
  | scr _ => cases e
  | emp =>
    cases e
    obtain ⟨a, rfl, h1⟩ := q.emp fh
    exact .base (.dK h1)
/-- T among the names whose answers are known -/
def KitT (T : String) : Prop := ∀ t ∈ ["NoneType", "bool", "int", "str", "tuple", "list", "dict"], kitB t T = some (t == T || (T == "int" && t == "bool"))
theorem je_isi {f : M Hd} {T : String} {x : Str} {p2 : Pos} (hT : KitT T) (hg : Gl X "isinstance") (hm : X.mg "isinstance" = none) (hg2 : Gl X x) (hm2 : X.mg x = none) (hb : bootBuiltins x = some (.type T)) (ha : JE X Wx a f)
    (hn : x ≠ "__name__" := by decide) (hdb : (x == ("__debug__" : Str)) = false := by decide)
    (he : starEach [a, .Name x p2] X.env = (false, eval a X.env) :: starEach [.Name x p2] X.env := by rfl) (he2 : starEach [.Name x p2] X.env = (false, eval (.Name x p2) X.env) :: starEach [] X.env := by rfl) (hpl : (backTo pos (starEach [.Name x p2] X.env)).any (·.1) = false := by rfl) :
    JE X Wx (.Call (.Name "isinstance" p) [a, .Name x p2] [] pos) (dIsi T f) :=
  PE.imp (pe_callB (call_isi (X := X)) hg hm PyProof.Rows.boot_isinstance (pa_cons ha (pa_cons (pe_bltn (v := .ty T) hg2 hm2 hb rfl hn hdb) pa_nil he2) he) (he := he) (hpl := hpl)) fun σ H Q ⟨W, F, ρ, S, R⟩ => by
    refine ⟨W, F, ρ, S, R.bind.imp fun ρ1 h F1 H1 S1 s1 R1 v hv => ?_⟩
    obtain ⟨d, q, R2⟩ := R1.res S1 hv
    obtain ⟨z, ez, R3⟩ := R2.lft
    unfold isiT at ez
    cases et : tyD d with
    | none => rw [et] at ez; cases ez
    | some t =>
      rw [et] at ez
      cases ez
      have ht : t ∈ ["NoneType", "bool", "int", "str", "tuple", "list", "dict"] := by
        cases d <;> (first | (cases et; decide) | cases et)
      exact ⟨v, .ty T, .type t, .type T, _, rfl, .ty T, tyx_of S1.fh q et, kit_ty (hT t ht), R3.pur S1 (Same.refl _) _ (.bl _)⟩

/-! ### list(range(..)), tuple(range(..)) -/
def rgOkD (i j : Int) : Option Unit := if SmI i ∧ SmI j ∧ (j - i).toNat ≤ 16777216 then some () else none
theorem rgOk_of {i j : Int} {u : Unit} (h : rgOkD i j = some u) : RgOk i j := by
  unfold rgOkD at h
  by_cases c : SmI i ∧ SmI j ∧ (j - i).toNat ≤ 16777216
  · exact ⟨c.1.lo, c.1.hi, c.2.1.lo, c.2.1.hi, by have := c.2.2; omega⟩
  · rw [if_neg c] at h; cases h
theorem rg_dq {K : PySem.W.Frag} {F : Hp} (i j : Int) : DqA K F (rgV i j) (rngD i (j - i).toNat) := by
  unfold rgV rngD
  generalize List.range (j - i).toNat = l
  induction l with
  | nil => exact .nil
  | cons k l ih => exact .cons (.int _) ih
/-- range(a), range(a, b) as a list's, a tuple's source -/
def dRg1 (f : M Hd) : M (List D) := bnd f fun h => bnd (res h) fun x => bnd (lft (intD x)) fun j => bnd (lft (rgOkD 0 j)) fun _ => pur (rngD 0 (j - 0).toNat)
def dRg2 (f g : M Hd) : M (List D) := bnd f fun h => bnd g fun k => bnd (res h) fun x => bnd (res k) fun y => bnd (lft (intD x)) fun i => bnd (lft (intD y)) fun j => bnd (lft (rgOkD i j)) fun _ => pur (rngD i (j - i).toNat)
abbrev JRg (X : Cx) (Wx : WX) (e : Expr) (f : M (List D)) : Prop := ∃ t, PRg X e t ∧ ∀ (W : Wd) (F : Hp) (ρ : Rho) (σ : St) (H : Hp) (κ : Rho → List D → Hp → Hp → Prop) (Q : Int → Int → Hp → Prop), StOk X.K W ρ σ F H → RunAt X.K Wx f W ρ σ F κ →
  (∀ i j H1 ρ1 F1, StOk X.K W ρ1 σ F1 H1 → Same F F1 → RgOk i j → RunAt X.K Wx (pur (rngD i (j - i).toNat)) W ρ1 σ F1 κ → Q i j H1) → t σ H Q
theorem jrg_1 {f : M Hd} (hg : Gl X "range") (hm : X.mg "range" = none) (ha : JE X Wx a f) (na : starEach [a] X.env = (false, eval a X.env) :: starEach [] X.env := by rfl) : JRg X Wx (.Call (.Name "range" p) [a] [] pos) (dRg1 f) :=
  ⟨_, prg_1 hg hm ha na, fun W F ρ σ H κ Q S R fin => ⟨W, F, ρ, S, R.bind.imp fun ρ1 h F1 H1 S1 s1 R1 v hv => by
    obtain ⟨x, q, R2⟩ := R1.res S1 hv
    obtain ⟨j, ej, R3⟩ := R2.lft
    obtain ⟨u, eu, R4⟩ := R3.lft
    cases x with
    | int j' => cases ej; exact ⟨j, q.int, fin _ _ _ ρ1 F1 S1 s1 (rgOk_of eu) R4⟩
    | _ => cases ej⟩⟩
theorem jrg_2 {f g : M Hd} (hg : Gl X "range") (hm : X.mg "range" = none) (ha : JE X Wx a f) (hb : JE X Wx b g) (na : starEach [a, b] X.env = (false, eval a X.env) :: starEach [b] X.env := by rfl) (nb : starEach [b] X.env = (false, eval b X.env) :: starEach [] X.env := by rfl) (hp : (backTo pos (starEach [b] X.env)).any (·.1) = false := by rfl) : JRg X Wx (.Call (.Name "range" p) [a, b] [] pos) (dRg2 f g) :=
  ⟨_, prg_2 hg hm ha hb na nb hp, fun W F ρ σ H κ Q S R fin => ⟨W, F, ρ, S, R.bind.imp fun ρ1 h F1 H1 S1 s1 R1 v hv => ⟨W, F1, ρ1, S1, R1.bind.imp fun ρ2 k F2 H2 S2 s2 R2 u hu => by
    obtain ⟨x, q, R3⟩ := R2.res S2 (hv.sm s2)
    obtain ⟨y, q', R4⟩ := R3.res S2 hu
    obtain ⟨i, ei, R5⟩ := R4.lft
    obtain ⟨j, ej, R6⟩ := R5.lft
    obtain ⟨_, eu, R7⟩ := R6.lft
    cases x with
    | int i' =>
      cases ei
      cases y with
      | int j' => cases ej; exact ⟨i, j, q.int, q'.int, fin _ _ _ ρ2 F2 S2 (s1.trans s2) (rgOk_of eu) R7⟩
      | _ => cases ej
    | _ => cases ei⟩⟩⟩
theorem jo_listRg {f : M (List D)} (hc : X.calm = true) (hg : Gl X "list") (hm : X.mg "list" = none) (he : JRg X Wx e f) (na : starEach [e] X.env = (false, eval e X.env) :: starEach [] X.env := by rfl) : JO X Wx (.Call (.Name "list" p) [e] [] pos) f := by
  obtain ⟨t, h1, h2⟩ := he
  exact PE.imp (pe_listRg hc hg hm h1 na) fun σ H Q ⟨W, F, ρ, S, R⟩ => h2 W F ρ σ H _ _ S R fun i j H1 ρ1 F1 S1 s1 ok R1 => ⟨ok, fun q hq => by
    have al := Alloc.newO S1.fh hq (.lst (rgV i j))
    obtain ⟨f1, f2, f3⟩ := S1.fresh hq
    exact R1.pur (S1.alloc al) al.ff q ⟨⟨_, upd_same, rg_dq i j⟩, f3, f1⟩ (S1.lone hq)⟩
def dTpl (f : M (List D)) : M Hd := bnd f fun xs => pur (.d (.tup xs))
theorem je_tupRg {f : M (List D)} (hc : X.calm = true) (hg : Gl X "tuple") (hm : X.mg "tuple" = none) (he : JRg X Wx e f) (na : starEach [e] X.env = (false, eval e X.env) :: starEach [] X.env := by rfl) : JE X Wx (.Call (.Name "tuple" p) [e] [] pos) (dTpl f) := by
  obtain ⟨t, h1, h2⟩ := he
  exact PE.imp (pe_tupRg hc hg hm h1 na) fun σ H Q ⟨W, F, ρ, S, R⟩ => h2 W F ρ σ H _ _ S R.bind fun i j H1 ρ1 F1 S1 s1 ok R1 => ⟨ok, fun q hq => by
    have al := Alloc.new S1.fh hq (.tup (rgV i j))
    exact (R1.pur S1 (Same.refl _)).pur (S1.alloc al) al.ff _ (.tup (.inl (.inl upd_same)) (rg_dq i j))⟩

/-! ### two or three stores at once -/
inductive Xv where
  | d (x : D)
  | o (xs : List D)
def XOk (K : PySem.W.Frag) (W : Wd) (ρ : Rho) (σ : St) (F H : Hp) : Xv → V → Prop
  | .d x, v => Dq K F v x
  | .o xs, v => ∃ a, v = .ref a ∧ OwnAt K W F H none a xs ∧ Lone ρ σ a
def tX (K : PySem.W.Frag) (Wx : WX) (f : M (List Xv)) : TA := fun σ H Q => ∃ W F ρ, StOk K W ρ σ F H ∧ RunAt K Wx f W ρ σ F fun ρ' xs F' H' => ∀ vs, Paired (XOk K W ρ' σ F' H') xs vs → (∀ (i j : Nat) (a : Addr) (xa ya : List D), i ≠ j → xs[i]? = some (Xv.o xa) → xs[j]? = some (Xv.o ya) → vs[i]? = some (V.ref a) → vs[j]? ≠ some (V.ref a)) → Q vs H'
abbrev JX (X : Cx) (Wx : WX) (es : List Expr) (f : M (List Xv)) : Prop := PA X es (tX X.K Wx f)
def xNil : M (List Xv) := pur []
def xD (f : M Hd) (g : M (List Xv)) : M (List Xv) := bnd (bnd f cl) fun x => bnd g fun xs => pur (.d x :: xs)
def xO (f : M (List D)) (g : M (List Xv)) : M (List Xv) := bnd f fun x => bnd g fun xs => pur (.o x :: xs)
theorem jx_nil : JX X Wx [] xNil := PA.imp pa_nil fun σ H Q ⟨W, F, ρ, S, R⟩ => R.pur S (Same.refl _) [] .nil fun _ _ _ _ _ _ e => (by simp at e)
theorem jx_d {f : M Hd} {g : M (List Xv)} (ha : JE X Wx e f) (hr : JX X Wx es g) (hs : starEach (e :: es) X.env = (false, eval e X.env) :: starEach es X.env := by rfl) : JX X Wx (e :: es) (xD f g) :=
  PA.imp (pa_cons ha hr hs) fun σ H Q ⟨W, F, ρ, S, R⟩ => ⟨W, F, ρ, S, R.bcl2.imp fun ρ1 h F1 H1 S1 s1 k v hv => by
    obtain ⟨x, ρ2, F2, S2, s2, q, R2⟩ := k S1 v hv
    refine ⟨W, F2, ρ2, S2, R2.bind.imp fun ρ3 xs F3 H3 S3 s3 R3 vs hvs hd => R3.pur S3 (Same.refl _) (v :: vs) (.cons (q.m s3) hvs) fun i j a xa ya hij e1 e2 e3 => ?_⟩
    cases i with
    | zero => cases e1
    | succ i =>
      cases j with
      | zero => cases e2
      | succ j => exact hd i j a xa ya (by omega) (by simpa using e1) (by simpa using e2) (by simpa using e3)⟩
theorem RunAt.prot {K : PySem.W.Frag} {W : Wd} {ρ : Rho} {σ : St} {F : Hp} {β : Type} {m : M β} {κ : Rho → β → Hp → Hp → Prop} {a : Addr} {o : HO} (R : RunAt K Wx m W ρ σ F κ) (n0 : W.H0 a = none) (nB : a ∉ W.B) (f0 : W.F0 a = none) (hot : ∀ ps, o ≠ .tbl ps := by intro _ z; cases z) :
    RunAt K Wx m (W.prot a o) ρ σ F fun ρ' x F' H' => κ ρ' x F' H' ∧ StOk K W ρ' σ F' H' ∧ H' a = some o ∧ Lone ρ' σ a ∧ F' a = none := by
  obtain ⟨r, ρ', e, q⟩ := R
  refine ⟨r, ρ', e, ?_⟩
  cases r with
  | ok x =>
    intro F' H' S' s'
    have fa := S'.protF f0
    obtain ⟨S2, h1, h2, _⟩ := S'.unprot n0 nB hot
    exact ⟨q F' H' S2 s', S2, h1, h2, fa⟩
  | error x =>
    intro F' H' cls dd S' s' er
    obtain ⟨S2, h1, h2, _⟩ := S'.unprot n0 nB hot
    exact q F' H' cls dd S2 s' er
theorem XOk.unprot {K : PySem.W.Frag} {W : Wd} {ρ : Rho} {σ : St} {F H : Hp} {a : Addr} {o : HO} {x : Xv} {v : V} (h : XOk K (W.prot a o) ρ σ F H x v) : XOk K W ρ σ F H x v ∧ (∀ xs, x = .o xs → v ≠ .ref a) := by
  cases x with
  | d x => exact ⟨h, fun _ z => nomatch z⟩
  | o xs =>
    obtain ⟨b, rfl, ⟨h1, h2, h3⟩, h4⟩ := h
    have hb : b ≠ a := fun z => by
      have h3 : upd W.H0 a o b = none := h3.1
      rw [z, upd_same] at h3; cases h3
    have h5 : upd W.H0 a o b = none := h3.1
    rw [upd_ne hb] at h5
    exact ⟨⟨b, rfl, ⟨h1, h2, h5, h3.2⟩, h4⟩, fun _ _ z => hb (by injection z)⟩
theorem jx_o {f : M (List D)} {g : M (List Xv)} (ha : JO X Wx e f) (hr : JX X Wx es g) (hs : starEach (e :: es) X.env = (false, eval e X.env) :: starEach es X.env := by rfl) : JX X Wx (e :: es) (xO f g) :=
  PA.imp (pa_cons ha hr hs) fun σ H Q ⟨W, F, ρ, S, R⟩ => ⟨W, F, ρ, S, R.bind.imp fun ρ1 x F1 H1 S1 s1 R1 a ⟨⟨vs0, h1, h2⟩, h3, h4, h5⟩ l => by
    have f0 := none_of_same S1.cfg.ff h3
    refine ⟨W.prot a (.lst vs0), F1, ρ1, S1.prot h1 h3 f0 h4 l, ((R1.bind.prot (o := .lst vs0) h4 h5 f0).imp fun ρ2 xs F2 H2 S2 s2 ⟨R2, S3, k1, k2, k3⟩ vs hvs hd => ?_)⟩
    have hv2 : Paired (XOk X.K W ρ2 σ F2 H2) xs vs := Paired.mapP hvs fun _ _ z => (XOk.unprot z).1
    refine R2.pur S3 (Same.refl _) (.ref a :: vs) (.cons ⟨a, rfl, ⟨⟨vs0, k1, h2.m s2⟩, k3, h4, h5⟩, k2⟩ hv2) fun i j b xa ya hij e1 e2 e3 => ?_
    have far : ∀ {n : Nat} {zs : List D}, xs[n]? = some (.o zs) → vs[n]? ≠ some (.ref a) := fun {n zs} g1 g2 => by
      have key : ∀ {n : Nat} {xs : List Xv} {vs : List V}, Paired (XOk X.K (W.prot a (.lst vs0)) ρ2 σ F2 H2) xs vs → xs[n]? = some (.o zs) → vs[n]? ≠ some (.ref a) := by
        intro n
        induction n with
        | zero =>
          intro xs vs p g1 g2
          cases p with
          | nil => simp at g1
          | cons q t =>
            simp at g1 g2
            exact (XOk.unprot q).2 zs g1 g2
        | succ n ih =>
          intro xs vs p g1 g2
          cases p with
          | nil => simp at g1
          | cons q t => exact ih t (by simpa using g1) (by simpa using g2)
      exact key hvs g1 g2
    cases i with
    | zero =>
      have eb : b = a := by simp at e3; exact e3.symm
      subst eb
      cases j with
      | zero => exact absurd rfl hij
      | succ j => exact fun z => far (by simpa using e2) (by simpa using z)
    | succ i =>
      cases j with
      | zero =>
        intro z
        have eb : b = a := by simp at z; exact z.symm
        subst eb
        exact far (by simpa using e1) (by simpa using e3)
      | succ j => exact fun z => hd i j b xa ya (by omega) (by simpa using e1) (by simpa using e2) (by simpa using e3) (by simpa using z)⟩
@[simp] def setX (ρ : Rho) (i : Nat) : Xv → Rho
  | .d x => ρ.set i (.d x)
  | .o xs => ρ.set i (.o none xs)
def sPar2 (i j : Nat) (f : M (List Xv)) : MS := ex f fun xs ρ => match xs with
  | [x, y] => some (.nx, setX (setX ρ i x) j y)
  | _ => none
def sPar3 (i j l : Nat) (f : M (List Xv)) : MS := ex f fun xs ρ => match xs with
  | [x, y, z] => some (.nx, setX (setX (setX ρ i x) j y) l z)
  | _ => none
theorem StOk.setX {K : PySem.W.Frag} {W : Wd} {ρ : Rho} {σ : St} {F H : Hp} {x : Xv} {v : V} (S : StOk K W ρ σ F H) (i : Nat) (q : XOk K W ρ σ F H x v) : StOk K W (DL.setX ρ i x) (σ.set i (some v)) F H := by
  cases x with
  | d x => exact S.setD i q
  | o xs =>
    obtain ⟨a, rfl, h1, h2⟩ := q
    exact S.setO i h1 h2
/-- what another store leaves of a fresh list -/
theorem XOk.keep {K : PySem.W.Frag} {W : Wd} {ρ : Rho} {σ : St} {F H : Hp} {x y : Xv} {v u : V} {i : Nat} (hy : XOk K W ρ σ F H y u) (hl : ρ.length = σ.length) (hd : ∀ (a : Addr) (xa ya : List D), x = .o xa → y = .o ya → v = .ref a → u ≠ .ref a) (hx : XOk K W ρ σ F H x v) : XOk K W (setX ρ i x) (σ.set i (some v)) F H y u := by
  cases y with
  | d y => exact hy
  | o ys =>
    obtain ⟨b, rfl, h1, h2⟩ := hy
    refine ⟨b, rfl, h1, fun j c zs e z => ?_⟩
    by_cases hj : j = i
    · subst hj
      have hlt : j < σ.length := by
        have := (List.getElem?_eq_some_iff.mp z).1
        simpa using this
      rw [List.getElem?_set_self hlt] at z
      have ev : v = .ref b := by injection z with z; injection z
      cases x with
      | d x =>
        have e : (ρ.set j (.d x))[j]? = some (.o c zs) := e
        rw [List.getElem?_set_self (hl ▸ hlt)] at e; cases e
      | o xs => exact hd b xs ys rfl rfl ev rfl
    · rw [List.getElem?_set_ne (Ne.symm hj)] at z
      have e2 : ρ[j]? = some (.o c zs) := by
        cases x with
        | d x =>
          have e : (ρ.set i (.d x))[j]? = some (.o c zs) := e
          rw [List.getElem?_set_ne (Ne.symm hj)] at e; exact e
        | o xs =>
          have e : (ρ.set i (.o none xs))[j]? = some (.o c zs) := e
          rw [List.getElem?_set_ne (Ne.symm hj)] at e; exact e
      exact h2 j c zs e2 z
theorem js_par2 {i j : Nat} {x y : Str} {px py pt : Pos} {kt k2 pt2} {f : M (List Xv)} (hc : X.calm = true) (hN : X.N.Nodup) (hi : X.N[i]? = some x) (hj : X.N[j]? = some y) (hij : i ≠ j) (hx : X.env.scope.names.lookup x = some .local) (hy : X.env.scope.names.lookup y = some .local) (ha : JX X Wx [a, b] f)
    (hw : swappedStores [.Tuple [.Name x px, .Name y py] kt pt] (.Tuple [a, b] k2 pt2) X.env = pure (some [x, y])) (hs : swapsWithSole [.Tuple [.Name x px, .Name y py] kt pt] (.Tuple [a, b] k2 pt2) pos.line X.env = pure false := by rfl) :
    JS X Wx (.Assign [.Tuple [.Name x px, .Name y py] kt pt] (.Tuple [a, b] k2 pt2) pos) (sPar2 i j f) :=
  PS.imp (ps_par hc hN hi hj hij hx hy ha hw hs) fun D σ H ⟨W, F, ρ, S, R⟩ => ⟨W, F, ρ, S, (SAt.ex (σ := σ) R).imp fun ρ1 xs F1 H1 S1 s1 ⟨fl, ρ', e, fin⟩ vs hvs hd => by
    match xs, e, hvs, hd with
    | [x1, x2], e, .cons q1 (.cons q2 .nil), hd =>
      cases e
      have S2 := S1.setX i q1
      have q2' := q2.keep (i := i) S1.len (fun a xa ya e1 e2 e3 e4 => hd 0 1 a xa ya (by decide) (by rw [e1]; rfl) (by rw [e2]; rfl) (by rw [e3]; rfl) (by rw [e4]; rfl)) q1
      exact ⟨_, _, rfl, fin _ _ _ (S2.setX j q2') (Same.refl _)⟩⟩
theorem js_par3 {i j l : Nat} {x y z : Str} {px py pz pt : Pos} {kt k2 pt2} {f : M (List Xv)} (hc : X.calm = true) (hN : X.N.Nodup) (hi : X.N[i]? = some x) (hj : X.N[j]? = some y) (hl : X.N[l]? = some z) (hij : i ≠ j) (hil : i ≠ l) (hjl : j ≠ l) (hx : X.env.scope.names.lookup x = some .local) (hy : X.env.scope.names.lookup y = some .local) (hz : X.env.scope.names.lookup z = some .local) (ha : JX X Wx [a, b, c] f)
    (hw : swappedStores [.Tuple [.Name x px, .Name y py, .Name z pz] kt pt] (.Tuple [a, b, c] k2 pt2) X.env = pure (some [x, y, z])) (hs : swapsWithSole [.Tuple [.Name x px, .Name y py, .Name z pz] kt pt] (.Tuple [a, b, c] k2 pt2) pos.line X.env = pure false := by rfl) :
    JS X Wx (.Assign [.Tuple [.Name x px, .Name y py, .Name z pz] kt pt] (.Tuple [a, b, c] k2 pt2) pos) (sPar3 i j l f) :=
  PS.imp (ps_par3 hc hN hi hj hl hij hil hjl hx hy hz ha hw hs) fun D σ H ⟨W, F, ρ, S, R⟩ => ⟨W, F, ρ, S, (SAt.ex (σ := σ) R).imp fun ρ1 xs F1 H1 S1 s1 ⟨fl, ρ', e, fin⟩ vs hvs hd => by
    match xs, e, hvs, hd with
    | [x1, x2, x3], e, .cons q1 (.cons q2 (.cons q3 .nil)), hd =>
      cases e
      have S2 := S1.setX i q1
      have q2' := q2.keep (i := i) S1.len (fun a xa ya e1 e2 e3 e4 => hd 0 1 a xa ya (by decide) (by rw [e1]; rfl) (by rw [e2]; rfl) (by rw [e3]; rfl) (by rw [e4]; rfl)) q1
      have q3' := q3.keep (i := i) S1.len (fun a xa ya e1 e2 e3 e4 => hd 0 2 a xa ya (by decide) (by rw [e1]; rfl) (by rw [e2]; rfl) (by rw [e3]; rfl) (by rw [e4]; rfl)) q1
      have q3'' := q3'.keep (i := j) S2.len (fun a xa ya e1 e2 e3 e4 => hd 1 2 a xa ya (by decide) (by rw [e1]; rfl) (by rw [e2]; rfl) (by rw [e3]; rfl) (by rw [e4]; rfl)) q2'
      exact ⟨_, _, _, rfl, fin _ _ _ ((S2.setX j q2').setX l q3'') (Same.refl _)⟩⟩
end
end DL
end
section
set_option Elab.async false
set_option linter.all false
set_option maxRecDepth 100000
set_option maxHeartbeats 1000000
/-! DLP: two or three stores at once where a name is a cell: stored from the left, by way of a tuple. -/
namespace DL
open PySem PySem.Spec L2
open PyProof.Rows hiding St
variable [Tb0]
theorem XOk.alloc {K : PySem.W.Frag} {W : Wd} {ρ : Rho} {σ : St} {F H F' H' : Hp} {x : Xv} {v : V} (a : Alloc F H F' H') (h : XOk K W ρ σ F H x v) : XOk K W ρ σ F' H' x v := by
  cases x with
  | d x => exact Dq.m a.ff h
  | o xs =>
    obtain ⟨b, rfl, h1, h2⟩ := h
    obtain ⟨b', e, h3⟩ := SlOk.alloc (s := .o none xs) (v := some (.ref b)) a ⟨b, rfl, h1⟩
    cases e
    exact ⟨b, rfl, h3, h2⟩
theorem par2_fin {K : PySem.W.Frag} {W : Wd} {ρ : Rho} {σ : St} {F H : Hp} {x1 x2 : Xv} {v1 v2 : V} {i j : Nat} {p : Addr} (S : StOk K W ρ σ F H) (q1 : XOk K W ρ σ F H x1 v1) (q2 : XOk K W ρ σ F H x2 v2) (hd : ∀ (i j : Nat) (a : Addr) (xa ya : List D), i ≠ j → [x1, x2][i]? = some (Xv.o xa) → [x1, x2][j]? = some (Xv.o ya) → [v1, v2][i]? = some (V.ref a) → [v1, v2][j]? ≠ some (V.ref a)) (hp : H p = none) (o : HO) :
    StOk K W (setX (setX ρ i x1) j x2) ((σ.set i (some v1)).set j (some v2)) F (upd H p o) := by
  have al := Alloc.newO S.fh hp o
  have S2 := (S.alloc al).setX i (q1.alloc al)
  exact S2.setX j ((q2.alloc al).keep (i := i) S.len (fun a xa ya e1 e2 e3 e4 => hd 0 1 a xa ya (by decide) (by rw [e1]; rfl) (by rw [e2]; rfl) (by rw [e3]; rfl) (by rw [e4]; rfl)) (q1.alloc al))
theorem par3_fin {K : PySem.W.Frag} {W : Wd} {ρ : Rho} {σ : St} {F H : Hp} {x1 x2 x3 : Xv} {v1 v2 v3 : V} {i j l : Nat} {p : Addr} (S : StOk K W ρ σ F H) (q1 : XOk K W ρ σ F H x1 v1) (q2 : XOk K W ρ σ F H x2 v2) (q3 : XOk K W ρ σ F H x3 v3) (hd : ∀ (i j : Nat) (a : Addr) (xa ya : List D), i ≠ j → [x1, x2, x3][i]? = some (Xv.o xa) → [x1, x2, x3][j]? = some (Xv.o ya) → [v1, v2, v3][i]? = some (V.ref a) → [v1, v2, v3][j]? ≠ some (V.ref a)) (hp : H p = none) (o : HO) :
    StOk K W (setX (setX (setX ρ i x1) j x2) l x3) (((σ.set i (some v1)).set j (some v2)).set l (some v3)) F (upd H p o) := by
  have al := Alloc.newO S.fh hp o
  have S2 := (S.alloc al).setX i (q1.alloc al)
  have q2' := (q2.alloc al).keep (i := i) S.len (fun a xa ya e1 e2 e3 e4 => hd 0 1 a xa ya (by decide) (by rw [e1]; rfl) (by rw [e2]; rfl) (by rw [e3]; rfl) (by rw [e4]; rfl)) (q1.alloc al)
  have q3' := (q3.alloc al).keep (i := i) S.len (fun a xa ya e1 e2 e3 e4 => hd 0 2 a xa ya (by decide) (by rw [e1]; rfl) (by rw [e2]; rfl) (by rw [e3]; rfl) (by rw [e4]; rfl)) (q1.alloc al)
  have q3'' := q3'.keep (i := j) S2.len (fun a xa ya e1 e2 e3 e4 => hd 1 2 a xa ya (by decide) (by rw [e1]; rfl) (by rw [e2]; rfl) (by rw [e3]; rfl) (by rw [e4]; rfl)) q2'
  exact (S2.setX j q2').setX l q3''
section
variable {X : Cx} {Wx : WX} {a b c : Expr} {pos : Pos}
theorem js_parL2 {i j : Nat} {x y : Str} {px py pt : Pos} {kt k2 pt2} {f : M (List Xv)} (hc : X.calm = true) (hN : X.N.Nodup) (hi : X.N[i]? = some x) (hj : X.N[j]? = some y) (hx : Loc X.env.scope x) (hy : Loc X.env.scope y) (hf : X.fn x = true ∨ X.env.scope.names.lookup x = some .local) (hg : X.fn y = true ∨ X.env.scope.names.lookup y = some .local) (ha : JX X Wx [a, b] f)
    (hw : swappedStores [.Tuple [.Name x px, .Name y py] kt pt] (.Tuple [a, b] k2 pt2) X.env = pure none) (hs : swapsWithSole [.Tuple [.Name x px, .Name y py] kt pt] (.Tuple [a, b] k2 pt2) pos.line X.env = pure false := by rfl)
    (h1 : (assignEach [.Tuple [.Name x px, .Name y py] kt pt] X.env).map (·.2) = [assign (.Tuple [.Name x px, .Name y py] kt pt) X.env] := by rfl) :
    JS X Wx (.Assign [.Tuple [.Name x px, .Name y py] kt pt] (.Tuple [a, b] k2 pt2) pos) (sPar2 i j f) :=
  PS.imp (ps_asg (pe_tup ha) (pg_tup (n := 2) hc (pgs_cons (pg_name hN hi hx hf) (pgs_cons (pg_name hN hj hy hg) pgs_nil))) hs hw h1) fun D σ H ⟨W, F, ρ, S, R⟩ => ⟨W, F, ρ, S, (SAt.ex (σ := σ) R).imp fun ρ1 xs F1 H1 S1 s1 ⟨fl, ρ', e, fin⟩ vs hvs hd => by
    match xs, e, hvs, hd with
    | [x1, x2], e, .cons q1 (.cons q2 .nil), hd =>
      cases e
      refine ⟨by rw [sizeLine_eq]; simp, fun p hp => ⟨p, _, rfl, .inl (.inl upd_same), rfl, _, _, rfl, _, _, rfl, rfl, ?_⟩⟩
      exact fin _ _ _ (par2_fin S1 q1 q2 hd hp _) (Same.refl _)⟩
theorem js_parL3 {i j l : Nat} {x y z : Str} {px py pz pt : Pos} {kt k2 pt2} {f : M (List Xv)} (hc : X.calm = true) (hN : X.N.Nodup) (hi : X.N[i]? = some x) (hj : X.N[j]? = some y) (hl : X.N[l]? = some z) (hx : Loc X.env.scope x) (hy : Loc X.env.scope y) (hz : Loc X.env.scope z) (hf : X.fn x = true ∨ X.env.scope.names.lookup x = some .local) (hg : X.fn y = true ∨ X.env.scope.names.lookup y = some .local) (hh : X.fn z = true ∨ X.env.scope.names.lookup z = some .local) (ha : JX X Wx [a, b, c] f)
    (hw : swappedStores [.Tuple [.Name x px, .Name y py, .Name z pz] kt pt] (.Tuple [a, b, c] k2 pt2) X.env = pure none) (hs : swapsWithSole [.Tuple [.Name x px, .Name y py, .Name z pz] kt pt] (.Tuple [a, b, c] k2 pt2) pos.line X.env = pure false := by rfl)
    (h1 : (assignEach [.Tuple [.Name x px, .Name y py, .Name z pz] kt pt] X.env).map (·.2) = [assign (.Tuple [.Name x px, .Name y py, .Name z pz] kt pt) X.env] := by rfl) :
    JS X Wx (.Assign [.Tuple [.Name x px, .Name y py, .Name z pz] kt pt] (.Tuple [a, b, c] k2 pt2) pos) (sPar3 i j l f) :=
  PS.imp (ps_asg (pe_tup ha) (pg_tup (n := 3) hc (pgs_cons (pg_name hN hi hx hf) (pgs_cons (pg_name hN hj hy hg) (pgs_cons (pg_name hN hl hz hh) pgs_nil)))) hs hw h1) fun D σ H ⟨W, F, ρ, S, R⟩ => ⟨W, F, ρ, S, (SAt.ex (σ := σ) R).imp fun ρ1 xs F1 H1 S1 s1 ⟨fl, ρ', e, fin⟩ vs hvs hd => by
    match xs, e, hvs, hd with
    | [x1, x2, x3], e, .cons q1 (.cons q2 (.cons q3 .nil)), hd =>
      cases e
      refine ⟨by rw [sizeLine_eq]; simp, fun p hp => ⟨p, _, rfl, .inl (.inl upd_same), rfl, _, _, rfl, _, _, rfl, _, _, rfl, rfl, ?_⟩⟩
      exact fin _ _ _ (par3_fin S1 q1 q2 q3 hd hp _) (Same.refl _)⟩
end
end DL
end
section
set_option Elab.async false
set_option linter.all false
set_option maxRecDepth 100000
set_option maxHeartbeats 4000000
/-! DLS: sorted(set(xs)), xs a list or a tuple of ints, up to four thousand. -/
namespace DL
open PySem PySem.Spec L2
open PyProof.Rows hiding St
section
variable {P : Program} {w : World} {A : Around} {E : Value → Shared → Prop} {s : Shared} {a : Addr}
set_option maxRecDepth 100000 in
set_option maxHeartbeats 3200000 in
theorem call_set_lstI {l : Addr} {items : Array Value} (ns : List Int) {Q : Value → Shared → Prop} (hh : A.handled = none) (hl : s.heap.IsList l items) (hit : IntsAre items.toList ns) (hb : ns.length + 1 < scanBound)
    (h : ∀ (h' : Heap) (tk c : Nat), SetR w h' s.heap.objs.size (fun j => decide (j ∈ ns)) c → c ≤ ns.length → (∀ b o, s.heap.get? b = some o → h'.get? b = some o) → Q (.ref s.heap.objs.size) { s with heap := h', toks := tk }) :
    wpAny (model P w) A (call (.type "set") [.ref l]) Q E s := by
  have hisz : items.size = ns.length := by
    have q := IntsAre.length hit
    rw [Array.length_toList] at q
    exact q
  obtain ⟨c, tl, hmro⟩ := F.called_set.mro
  have hmade := F.called_set.made
  have hsub := F.called_set.sub
  refine wpAny_call (codeAny_of_tree ?_)
  show wpAny _ _ (callAny (.type "set") _) _ _ _
  refine wpAny_pure ⟨Code.quiet_builtin _ (by decide +kernel), codeAny_builtin F.entry_type_call ?_⟩
  rw [Around.under_plain (weight_type_call_type "set" [.ref l] []) rfl]
  have h1 := F.called_set.notType
  have h2 := F.called_set.canCreate
  have hct := F.typeCall_set_1 (.ref l)
  repeat (any_goals (first | assumption | wp_step))

  refine codeAny_mono (code_set_led1 (.ref l) (E := E) (Q₁ := fun obj s₁ => obj = .ref s.heap.objs.size ∧ s₁ = { s with heap := s.heap.push { cls := .type "set", dict := none, data := .set #[] 0 (.fresh 0 0 (!w.params.followText "set-order")) } }) ⟨rfl, rfl⟩) fun r s₁ hr => ?_
  cases r with
  | error e => exact hr
  | ok fl =>
    cases fl with
    | ret obj =>
      obtain ⟨rfl, rfl⟩ := hr
      have hS : (s.heap.push { cls := .type "set", dict := none, data := .set #[] 0 (.fresh 0 0 (!w.params.followText "set-order")) }).get? s.heap.objs.size = some { cls := .type "set", dict := none, data := .set #[] 0 (.fresh 0 0 (!w.params.followText "set-order")) } := Heap.get?_push_size _ rfl
      have hT : Shared.TypeIs { s with heap := s.heap.push { cls := .type "set", dict := none, data := .set #[] 0 (.fresh 0 0 (!w.params.followText "set-order")) } } (.ref s.heap.objs.size) "set" := ⟨_, hS, rfl⟩
      have hli := F.called_set.init.lookup
      have hbi := F.called_set.init.bind (.ref s.heap.objs.size)
      repeat (any_goals (first | assumption | wp_step))

      refine codeAny_mono (codeAny_call_builtin (R := wants (fun r s₂ => r = .none ∧ ∃ h' tk c, s₂ = { s with heap := h', toks := tk } ∧ SetR w h' s.heap.objs.size (fun j => decide (j ∈ ns)) c ∧ c ≤ ns.length ∧
          (∀ b o, s.heap.get? b = some o → h'.get? b = some o)) E) F.called_set.init.plain F.entry_set_init (check_set_init_1 hT ?_)) fun r₂ s₂ hr₂ => ?_
      · obtain ⟨ol, hol, hcl, nl, hdl⟩ := hl
        obtain ⟨ocls, odict, odata, oslots⟩ := ol
        simp only at hcl hdl
        subst hcl; subst hdl
        have hol' : (s.heap.push { cls := .type "set", dict := none, data := .set #[] 0 (.fresh 0 0 (!w.params.followText "set-order")) }).get? l = some { cls := .type "list", dict := odict, data := .seq items nl, slots := oslots } := Heap.get?_push_of_some _ hol
        have hsls := F.sub_list_set
        have hslf := F.sub_list_frozenset
        have hne : (Value.type "list" == Value.type "dict") = false := by decide
        have hl1 : (s.heap.push { cls := .type "set", dict := none, data := .set #[] 0 (.fresh 0 0 (!w.params.followText "set-order")) }).IsList l items := ⟨_, hol', rfl, nl, rfl⟩
        unfold Builtin.«set.__init__» noKeywords Builtin.Frozenset.updateFrom
        generalize hPI : pyIter = PI
        wp_walk
        subst hPI

        refine wpAny_pyIter_list hl1 ?_
        refine wpAny_bind (wpAny_runValue ?_)
        have hlS : l < s.heap.objs.size := Heap.lt_size hol
        have hh3 : A.in1.in1.in1.handled = none := by simp [hh]
        have hz1 : (s.heap.push { cls := .type "set", dict := none, data := .set #[] 0 (.fresh 0 0 (!w.params.followText "set-order")) }).objs.size = s.heap.objs.size + 1 := Heap.size_push ..
        have hneI : l ≠ (s.heap.push { cls := .type "set", dict := none, data := .set #[] 0 (.fresh 0 0 (!w.params.followText "set-order")) }).objs.size := by
          rw [Heap.size_push]; exact Nat.ne_of_lt (Nat.lt_succ_of_lt hlS)
        have hSf : s.heap.objs.size ∉ [(s.heap.push { cls := .type "set", dict := none, data := .set #[] 0 (.fresh 0 0 (!w.params.followText "set-order")) }).objs.size, l] := by
          rw [Heap.size_push]; simp only [List.mem_cons, List.mem_singleton, List.not_mem_nil, or_false, not_or]
          exact ⟨Nat.ne_of_lt (Nat.lt_succ_self _), Nat.ne_of_gt hlS⟩
        have hval : ∀ (i : Nat) (v : Value), items[i]? = some v → ∃ k t, ns[i]? = some k ∧ v = .int k t := fun i v hv => by
          have hi : i < ns.length := by rw [← hisz]; exact (Array.getElem?_eq_some_iff.mp hv).1
          obtain ⟨t, e⟩ := PyProof.Rows.IntsAre.int_at hit i v (by rw [Array.getElem?_toList]; exact hv)
          refine ⟨ns[i], t, List.getElem?_eq_getElem hi, ?_⟩
          rw [e, List.getD_eq_getElem?_getD, List.getElem?_eq_getElem hi] <;> rfl
        refine set_update_ints ((Walks.list hh3 _ l hneI items).toS) s.heap.objs.size
          hSf ns hisz hb hval (items.size - 0) 0 _ (by omega) (Nat.zero_le _)
          ⟨⟨_, Heap.get?_push_size _ rfl, rfl, rfl⟩, (hl1.push _)⟩ ?hS0 ?hR
        case hS0 =>
          have hget : ((s.heap.push { cls := .type "set", dict := none, data := .set #[] 0 (.fresh 0 0 (!w.params.followText "set-order")) }).push { cls := .type "list_iterator", data := .fields #[.ref l, .int 0 0] }).get? s.heap.objs.size
              = some { cls := .type "set", dict := none, data := .set #[] 0 (.fresh 0 0 (!w.params.followText "set-order")) } := Heap.get?_push_of_some _ hS
          exact ⟨0, Nat.le_refl 0, setR_new_at hget⟩
        case hR =>
          intro s' c' hm hc' hS'
          obtain ⟨h', g2, d', tk', os'⟩ := s'
          have eg : g2 = s.gens := hm.gens
          have ed : d' = s.drawn := hm.drawn
          have eo : os' = s.os := hm.os
          subst eg; subst ed; subst eo
          show wpAny _ _ _ _ _ _
          refine wpAny_pure ?_
          show wpAny _ _ (ret Value.none) _ _ _
          rw [hisz] at hc'
          refine wpAny_pure ⟨rfl, h', tk', c', rfl, hS', hc', fun b o e => ?_⟩
          have hb0 : b < s.heap.objs.size := Heap.lt_size e
          have hb1 : b ≠ s.heap.objs.size := Nat.ne_of_lt hb0
          have hb2 : b ≠ (s.heap.push { cls := .type "set", dict := none, data := .set #[] 0 (.fresh 0 0 (!w.params.followText "set-order")) }).objs.size := by
            rw [Heap.size_push]; exact Nat.ne_of_lt (Nat.lt_succ_of_lt hb0)
          exact hm.heap b o (by simp only [List.mem_cons, List.mem_singleton, List.not_mem_nil, or_false, not_or]; exact ⟨hb1, hb2⟩) (Heap.get?_push_of_some _ (Heap.get?_push_of_some _ e))

      · cases r₂ with
        | error e => exact hr₂
        | ok fl₂ =>
          cases fl₂ with
          | ret r =>
            obtain ⟨rfl, h', tk, c', rfl, hS', hc', hk'⟩ := hr₂
            repeat (any_goals (first | assumption | wp_step))
            exact h _ _ _ hS' hc' hk'
          | _ => exact hr₂.elim
    | _ => exact hr.elim


theorem sorted_setB {S : Int → Bool} {n : Nat} {Q : Value → Shared → Prop} (R : SetR w s.heap a S n) (hh : A.handled = none) (h64 : n ≤ 4096)
    (hQ : ∀ s' p (out : Array Value) (c : Nat) (ns : List Int), (∀ b o, s.heap.get? b = some o → s'.heap.get? b = some o) → s'.gens = s.gens → s'.os = s.os → s.heap.objs.size ≤ p →
      s'.heap.get? p = some (seqObj "list" out c) → IntsAre out.toList ns → ns.Pairwise (· < ·) → (∀ k, k ∈ ns ↔ S k = true) → ns.length = n → Q (.ref p) s') :
    wpAny (model P w) A (call (.builtin "sorted") [.ref a]) Q E s := by
  obtain ⟨o, es, ep, t, ho, hex, hd, g, nd, hm, hb, hf, hn, hr, hl⟩ := R
  refine Calls.call_function_entry kind_sorted plain_sorted entry_sorted (args_sorted1 _) ?_
  unfold Builtin.«sorted»
  refine wpAny_bind (m := checkCount "sorted" 1 1 _) (wpAny_pure ?_)
  refine wpAny_bind (collect_set (A := A.in1) hh ⟨o, ho, hex.1, hd⟩ hf hb hr hl fun s1 vs k1 hz g1 o1 pm => ?_)
  have hvl : vs.length = n := by rw [pm.length_eq, List.length_map, Array.length_toList]; exact hn
  have hI : IntsAre vs (vs.map Builtin.Re.reRawOf) := ints_of vs fun v hv => by
    obtain ⟨e, he, q⟩ := List.mem_map.mp (pm.mem_iff.mp hv)
    obtain ⟨k, tk, h1, _⟩ := g e he
    exact ⟨k, tk, by rw [← q]; exact h1⟩
  have pk : (vs.map Builtin.Re.reRawOf).Perm (es.toList.map keyOf) := by
    have q := pm.map Builtin.Re.reRawOf
    rw [List.map_map] at q
    exact q
  refine wpAny_bind (wpAny_newList ?_ (by rw [hvl, sizeLine_eq]; omega))
  have hoL : (s1.heap.push (seqObj "list" vs.toArray 0)).get? s1.heap.objs.size = some (seqObj "list" vs.toArray 0) := Heap.get?_push_size _ rfl
  refine wpAny_bind (wpAny_holding (wpAny_call_entry slot_list_sort ⟨_, hoL, rfl⟩ entry_list_sort (SrtO.list_sort_ord SrtO.swo_int hoL (by rw [hvl, sizeLine_eq]; omega) (fun h2 => SrtO.ints_sortable hI h2) fun out x1 x2 => ⟨_, rfl, ?_⟩) (args_list_sort _)))
  obtain ⟨a1, a2, a3⟩ := SrtO.ints_out hI x1 x2
  obtain ⟨c, hc⟩ := sortedHeap_at (vs := vs) (out := out.toArray) hoL
  have pn : (out.map SrtO.iv).Perm (es.toList.map keyOf) := a2.trans pk
  refine wpAny_pure ⟨_, rfl, hQ _ s1.heap.objs.size out.toArray c (out.map SrtO.iv) (fun b u e => ?_) g1 o1 hz hc a1 (lt_of_le_nodup _ a3 (pn.nodup_iff.mpr nd)) (fun k => by rw [pn.mem_iff, ← hm k]) ?_⟩
  · have q := k1 b u e
    have hlt := Heap.lt_size q
    show (sortedHeap (s1.heap.push (seqObj "list" vs.toArray 0)) s1.heap.objs.size vs out.toArray).get? b = some u
    rw [sortedHeap_old (Nat.ne_of_lt hlt) (by rw [size_push']; exact Nat.lt_succ_of_lt hlt)]
    exact Heap.get?_push_of_some _ q
  · rw [pn.length_eq, List.length_map, Array.length_toList]; exact hn
end
def rSetOf (K : PySem.W.Frag) (w : World) : List V → Hp → VK → Prop := fun xs H Q => ∃ (l : Addr) (ns : List Int), xs = [V.ref l] ∧ (SqT K H l (ns.map V.int) ∨ SqL K H l (ns.map V.int)) ∧ ns.length ≤ 4000 ∧
  ∀ (p : Addr) (n : Nat), n ≤ ns.length → H p = none → Q (.ref p) (upd H p (SetO w p (fun j => decide (j ∈ ns)) n))
def rSortedSetB (w : World) : List V → Hp → VK → Prop := fun vs H Q => ∃ (a : Addr) (S : Int → Bool) (n : Nat), vs = [V.ref a] ∧ H a = some (SetO w a S n) ∧ n ≤ 4096 ∧
  ∀ (ns : List Int) (p : Addr), ns.Pairwise (· < ·) → (∀ k : Int, k ∈ ns ↔ S k = true) → ns.length = n → H p = none → Q (.ref p) (upd H p (.lst (ns.map V.int)))
section
variable {X : Cx}
theorem cr_setOf (hc : X.calm = true) : CallR X (.type "set") (rSetOf X.K X.w) := by
  intro pins s σ H xs us Q I r h
  obtain ⟨l, ns, rfl, hl, hz, q⟩ := h
  rw [Vals.ref1 r]
  have hn : H s.heap.objs.size = none := I.hok.fresh (Nat.le_refl _)
  rcases hl with hl | hl
  · obtain ⟨its, rv, pt, _⟩ := I.tuple hl
    have hi : IntsAre its.toArray.toList ns := ints_of_vals rv
    refine call_set_tupI ns (I.ok.hd hc) (show s.heap.IsTuple l its.toArray from pt) hi (by unfold scanBound; omega) fun h' tk c R1 hcn k => ?_
    exact ⟨.ref _, upd H s.heap.objs.size (SetO X.w s.heap.objs.size (fun j => decide (j ∈ ns)) c), I.laid (t' := tk) k (Nat.le_refl _) (setO_new R1), rfl, q _ c hcn hn⟩
  · obtain ⟨its, rv, pt, _⟩ := I.list hl
    have hi : IntsAre its.toArray.toList ns := ints_of_vals rv
    refine call_set_lstI ns (I.ok.hd hc) pt.isList hi (by unfold scanBound; omega) fun h' tk c R1 hcn k => ?_
    exact ⟨.ref _, upd H s.heap.objs.size (SetO X.w s.heap.objs.size (fun j => decide (j ∈ ns)) c), I.laid (t' := tk) k (Nat.le_refl _) (setO_new R1), rfl, q _ c hcn hn⟩
theorem cr_sortedSetB (hc : X.calm = true) : CallR X (.builtin "sorted") (rSortedSetB X.w) := by
  intro pins s σ H vs us Q I r h
  obtain ⟨a, S, n, rfl, ha, h64, q⟩ := h
  have R := setO_get I ha
  rw [Vals.ref1 r]
  refine sorted_setB R (I.ok.hd hc) h64 fun s' p out c ns k g o hp hg hi hs hm hl => ?_
  have hlen : (ns.map V.int).length ≤ sizeLine := by rw [List.length_map, hl, sizeLine_eq]; omega
  have hn : H p = none := I.hok.fresh hp
  have J : Inv X pins σ (upd H p (.lst (ns.map V.int))) { s with heap := s'.heap, gens := s'.gens, drawn := s'.drawn, toks := s'.toks } :=
    I.call (ch := []) (Un.laid k hp hn) (I.hok.laid k hp ⟨hlen, out.toList, c, vals_of_ints hi, hg⟩) (by rw [g]; exact I.bare) (fun _ z => nomatch z)
  have e : s' = { s with heap := s'.heap, gens := s'.gens, drawn := s'.drawn, toks := s'.toks } := by
    cases s'
    cases s
    cases o
    rfl
  rw [e]
  exact ⟨.ref p, _, J, rfl, q ns p hs hm hl hn⟩
end
end DL
end
section
set_option Elab.async false
set_option linter.all false
set_option maxRecDepth 100000
set_option maxHeartbeats 4000000
/-! DLR: t[::-1] of a tuple; list(zip(a, b)) of two tuples. -/
namespace DL
open PySem PySem.Spec L2 HT
open PyProof.Rows hiding St
section
variable {prog : Program} {w : World} {A : Around} {E : Value → Shared → Prop} {s : Shared}
theorem rev_adjust (n : Nat) : Builtin.Slice.sliceAdjust none none (-1) (n : Int) = ((n : Int) - 1, -1) := rfl
theorem rev_places (n : Nat) : Builtin.Slice.slicePlaces ((n : Int) - 1) (-1) (-1) = n := by
  unfold Builtin.Slice.slicePlaces
  have h1 : ¬ ((-1 : Int) > 0) := by decide
  rw [if_neg h1]
  by_cases h : (n : Int) - 1 > -1
  · rw [if_pos h]
    have e : (- -1 : Int) = 1 := by decide
    rw [e, Int.ediv_one]
    omega
  · rw [if_neg h]
    omega
theorem rev_pick (xs : Array Value) : ((List.range xs.size).filterMap fun (k : Nat) => xs[(((xs.size : Int) - 1) + (k : Int) * -1).toNat]?).toArray = xs.toList.reverse.toArray := by
  congr 1
  have e : (List.range xs.size).filterMap (fun (k : Nat) => xs[(((xs.size : Int) - 1) + (k : Int) * -1).toNat]?) = (List.range xs.size).map fun k => (xs.toList.reverse[k]?).getD .none := by
    rw [← List.filterMap_eq_map]
    have key : ∀ (l : List Nat) (f g : Nat → Option Value), (∀ k ∈ l, f k = g k) → l.filterMap f = l.filterMap g := fun l f g h => by
      induction l with
      | nil => rfl
      | cons x l ih => rw [List.filterMap_cons, List.filterMap_cons, h x List.mem_cons_self, ih fun k hk => h k (List.mem_cons_of_mem _ hk)]
    refine key _ _ _ fun k hk => ?_
    have hk := List.mem_range.mp hk
    have h1 : (((xs.size : Int) - 1) + (k : Int) * -1).toNat = xs.size - 1 - k := by omega
    rw [h1]
    have h2 : xs.size - 1 - k < xs.size := by omega
    have h3 : k < xs.toList.length := by rw [Array.length_toList]; exact hk
    show _ = some ((xs.toList.reverse[k]?).getD .none)
    rw [List.getElem?_reverse h3, Array.length_toList, Array.getElem?_eq_getElem h2]
    rw [Array.getElem?_toList, Array.getElem?_eq_getElem h2] <;> rfl
  rw [e]
  apply List.ext_getElem
  · simp
  · intro i h1 h2
    have h3 : i < xs.toList.reverse.length := by simpa using h2
    simp only [List.getElem_map, List.getElem_range, List.getElem?_eq_getElem h3, Option.getD_some]
theorem sliceApplied_rev {sl : Addr} {vl vu vs : Value} {n : Nat} {Q : Int × Int × Nat → Shared → Prop} (hs : s.heap.IsSliceOf sl vl vu vs) (pl : IsPart vl none) (pu : IsPart vu none) (ps : IsPart vs (some (-1)))
    (h : Q ((n : Int) - 1, -1, n) s) : wpAny (model prog w) A (Builtin.Slice.sliceApplied (.ref sl) (pure (n : Int))) Q E s := by
  obtain ⟨os, hos, hcs, hds⟩ := id hs
  unfold Builtin.Slice.sliceApplied Builtin.Slice.sliceFields
  refine wpAny_bind (wpAny_bind (wpAny_field hos hds (x := vl) rfl (wpAny_bind (wpAny_field hos hds (x := vu) rfl (wpAny_bind (wpAny_field hos hds (x := vs) rfl (wpAny_pure ?_)))))))
  refine wpAny_bind (slicePart_ ps ?_)
  show wpAny _ _ (if ((-1 : Int) == 0) = true then _ else _) _ _ s
  rw [if_neg (by decide)]
  refine wpAny_bind (slicePart_ pl (wpAny_bind (slicePart_ pu (wpAny_bind (wpAny_pure ?_)))))
  show wpAny _ _ (match Builtin.Slice.sliceAdjust none none (-1) (n : Int) with | (lo, hi) => pure (lo, (-1 : Int), Builtin.Slice.slicePlaces lo hi (-1))) _ _ s
  rw [rev_adjust n]
  show wpAny _ _ (pure ((n : Int) - 1, (-1 : Int), Builtin.Slice.slicePlaces ((n : Int) - 1) (-1) (-1))) _ _ s
  rw [rev_places]
  exact wpAny_pure h
theorem getItem_tuple_rev {t sl : Addr} {items : Array Value} {vl vu vs : Value} {Q : Value → Shared → Prop} (ht : IsTup s.heap t items) (hs : s.heap.IsSliceOf sl vl vu vs) (pl : IsPart vl none) (pu : IsPart vu none) (ps : IsPart vs (some (-1)))
    (h : Q (.ref s.heap.objs.size) { s with heap := s.heap.push { cls := .type "tuple", data := .seq items.toList.reverse.toArray } })
    (hsz : items.size ≤ sizeLine) : wpAny (model prog w) A (getItem (.ref t) (.ref sl)) Q E s := by
  have htake : sizeOk (.seq items.toList.reverse.toArray) := by
    show items.toList.reverse.toArray.size ≤ sizeLine
    rw [List.size_toArray, List.length_reverse, Array.length_toList]
    exact hsz
  obtain ⟨os, hos, hcs, hds⟩ := id hs
  have hTs : s.TypeIs (.ref sl) "slice" := ⟨os, hos, hcs⟩
  unfold getItem
  try with_reducible refine wpAny_holding ?_
  first | refine wpAny_bind (wpAny_pure ?_) | skip
  refine wpAny_bind (wpAny_sequenceKey ht.typeIs (by decide) ?_)
  refine wpAny_bind (wpAny_callSpecial?_slot (name := Str.ofString "__getitem__") ht.typeIs PyProof.Rows.slot_tuple_getitem
    (wpAny_call_entry PyProof.Rows.slot_tuple_getitem ht.typeIs entry_tuple_getitem ?_ (args_tuple_getitem _ _)))
  show wpAny _ _ (Builtin.Tuple.tupleItemsOf (.ref t) >>= _) _ _ s
  refine wpAny_bind (tupleItemsOf_ ht ?_)
  refine wpAny_bind (wpAny_typeOf hTs ?_)
  rw [if_pos (by decide)]
  refine wpAny_bind (sliceApplied_rev hs pl pu ps ?_)
  have hno : ¬ ((((items.size : Int) - 1) == 0 && (-1 : Int) == 1 && items.size == items.size) = true) := by
    intro q
    rw [Bool.and_eq_true, Bool.and_eq_true] at q
    exact absurd (eq_of_beq q.1.2) (by decide)
  show wpAny _ _ (if (((items.size : Int) - 1) == 0 && (-1 : Int) == 1 && items.size == items.size) = true then _ else _) _ _ s
  rw [if_neg hno, rev_pick]
  first
    | exact wpAny_bind (m := Builtin.Tuple.tupleExact _) (wpAny_newObj_type (wpAny_pure ⟨_, rfl, wpAny_pure h⟩) htake)
    | exact wpAny_bind (m := Builtin.Tuple.tupleExact _) (wpAny_newObj_type (wpAny_bind (wpAny_pure (wpAny_pure ⟨_, rfl, wpAny_pure h⟩))) htake)
    | exact wpAny_bind (wpAny_bind (m := Builtin.Tuple.tupleExact _) (wpAny_newObj_type (wpAny_pure (wpAny_pure ⟨_, rfl, wpAny_pure h⟩)) htake))
    | exact wpAny_bind (wpAny_bind (m := Builtin.Tuple.tupleExact _) (wpAny_newObj_type (wpAny_pure ⟨_, rfl, wpAny_pure h⟩) htake))
end
section
variable {X : Cx}
def tRevT (K : PySem.W.Frag) (te : TE) : TE := fun σ H Q => te σ H fun x H1 => ∃ a xs, x = .ref a ∧ SqT K H1 a xs ∧ ∀ p, H1 p = none → Q (.ref p) (upd H1 p (.tup xs.reverse))
theorem pe_revT {e : Expr} {te : TE} {k : Nat} {p1 p2 p3 pos : Pos} (he : PE X e te) : PE X (.Subscript e (.Slice none none (some (.UnaryOp .USub (.Constant (.int 1) k p1) p2)) p3) pos) (tRevT X.K te) := by
  refine ⟨fun pins s σ H Q I h => ?_⟩
  refine Subscript_ (thn (he.run pins s σ H _ I h) fun v s1 ⟨x, H1, I1, r1, q1⟩ => ?_)
  obtain ⟨a, xs, ex, hx, q⟩ := q1
  subst ex
  cases r1
  have hst : PO X (some (.UnaryOp .USub (.Constant (.int 1) k p1) p2)) (tPart (tUn (rU fun i => .int (-i)) (tC (.int 1)))) := po_some (pe_un un_neg pe_int)
  refine wpAny_Slice (thn (po_none.run pins s1 σ H1 (fun o H2 => o = none ∧ H2 = H1) I1 ⟨rfl, rfl⟩) fun vl s2 ⟨l, H2, I2, pl, el, e2⟩ => ?_)
  subst el e2
  refine thn (po_none.run pins s2 σ H2 (fun o H3 => o = none ∧ H3 = H2) I2 ⟨rfl, rfl⟩) fun vu s3 ⟨u, H3, I3, pu, eu, e3⟩ => ?_
  subst eu e3
  refine thn (hst.run pins s3 σ H3 (fun o H4 => o = some (-1) ∧ H4 = H3) I3 ⟨1, rfl, -1, rfl, rfl, rfl⟩) fun vs s4 ⟨o, H4, I4, ps, eo, e4⟩ => ?_
  subst eo e4
  have I5 : Inv X pins σ H4 { s4 with heap := s4.heap.push { cls := .type "slice", data := .fields #[vl, vu, vs] } } := I4.kept (t' := s4.toks) fun b ob q => Heap.get?_push_of_some _ q
  obtain ⟨its, r, ht, hz⟩ := I5.tuple hx
  have hlen := r.length
  show wpAny (model X.prog X.w) X.A (subscriptTail e (.Slice none none (some (.UnaryOp .USub (.Constant (.int 1) k p1) p2)) p3) (.ref a) (.ref s4.heap.objs.size)) (EP X pins σ Q) X.xe { s4 with heap := s4.heap.push { cls := .type "slice", data := .fields #[vl, vu, vs] } }
  refine tail_any (ops := [.ref a, .ref s4.heap.objs.size]) ht.typeIs (PyProof.Rows.slot_tuple_getitem.lookup) ?_ (by with_unfolding_all rfl)
  refine getItem_tuple_rev ht (Heap.IsSliceOf.new _ vl vu vs) pl pu ps ?_ (by rw [List.size_toArray]; omega)
  refine ⟨.ref _, _, I5.laid (t' := s4.toks) (o := .tup xs.reverse) (fun b ob q => Heap.get?_push_of_some _ q) (Nat.le_refl _) ?_, rfl, q _ (I5.hok.fresh (Nat.le_refl _))⟩
  exact ⟨by rw [List.length_reverse]; exact hz, its.reverse, r.reverse, _, Heap.get?_push_size _ rfl, rfl, 0, rfl⟩
end
end DL
end
section
set_option Elab.async false
set_option linter.all false
set_option maxRecDepth 100000
set_option maxHeartbeats 4000000
/-! DLZ: list(zip(a, b)) of two tuples. -/
namespace DL
open PySem PySem.Spec L2 RZ
open PyProof.Rows hiding St
section
variable {prog : Program} {w : World} {A : Around} {E : Value → Shared → Prop} {s : Shared}
theorem wpAny_alive {a : Addr} {o : Obj} {Q : Option Obj → Shared → Prop} (ho : s.heap.get? a = some o) (h : Q (some o) s) : wpAny (model prog w) A (loadIfAlive a) Q E s := fun Γ p _ => by
  unfold loadIfAlive
  rw [Sem.wp_loadIfAlive, ho]
  exact (Sem.wp_pure ..).mpr h
abbrev IsZip2 (h : Heap) (z TI TO p : Addr) (b : Bool) : Prop :=
  h.get? z = some { cls := .type "zip", dict := none, data := .fields #[rawInt p, .bool b, .bool false, .ref TI, .ref TO], slots := #[] }
theorem free2 {z TI TO p : Addr} {b : Bool} {o : Obj} {Q : Bool → Shared → Prop} (hz : IsZip2 s.heap z TI TO p b) (hp : s.heap.get? p = some o)
    (hQ : ∀ h', IsZip2 h' z TI TO p true → Heap.SameBut z s.heap h' → Q false { s with heap := h' }) : wpAny (model prog w) A (Builtin.SmallTypes.ownedTupleIsFree (.ref z)) Q E s := by
  unfold Builtin.SmallTypes.ownedTupleIsFree
  refine wpAny_bind (wpAny_field hz rfl (x := rawInt p) rfl ?_)
  show wpAny _ _ (loadIfAlive ((p : Int)).toNat >>= _) _ _ _
  rw [Int.toNat_natCast]
  refine wpAny_bind (wpAny_alive hp ?_)
  simp only [Option.isNone_some, Bool.false_eq_true, if_false]
  refine wpAny_bind (wpAny_field hz rfl (x := .bool b) rfl ?_)
  cases b with
  | true =>
    have e : (Value.bool true != Value.bool true) = false := by decide
    rw [e]
    simp only [Bool.false_eq_true, if_false]
    refine wpAny_pure (hQ s.heap hz ⟨rfl, fun _ _ => rfl⟩)
  | false =>
    have e : (Value.bool false != Value.bool true) = true := by decide
    rw [e]
    simp only [if_true]
    refine wpAny_bind (wpAny_setField_rec hz (by simp) fun h₁ hz₁ hs₁ => ?_)
    exact wpAny_pure (hQ h₁ hz₁ hs₁)
theorem zipT_next_item2 {z TI TO i1 i2 l1 l2 p : Addr} {bq : Bool} {o : Obj} {k1 k2 : Nat} {xs ys : Array Value} {x y : Value} {Q : Value → Shared → Prop} (D : ZipApart z TI TO i1 i2 l1 l2)
    (hz : IsZip2 s.heap z TI TO p bq) (hp : s.heap.get? p = some o) (hTI : IsPair s.heap TI (.ref i1) (.ref i2))
    (h1 : s.heap.IsTupleIter i1 l1 k1) (h2 : s.heap.IsTupleIter i2 l2 k2) (hl1 : s.heap.IsTuple l1 xs) (hl2 : s.heap.IsTuple l2 ys) (hx : xs[k1]? = some x) (hy : ys[k2]? = some y)
    (hQ : ∀ h', IsZip2 h' z TI TO p true → h'.IsTupleIter i1 l1 (k1 + 1) → h'.IsTupleIter i2 l2 (k2 + 1) → IsPair h' s.heap.objs.size x y → h'.objs.size = s.heap.objs.size + 1 →
      (∀ c o, c ≠ z → c ≠ i1 → c ≠ i2 → s.heap.get? c = some o → h'.get? c = some o) → Q (.ref s.heap.objs.size) { s with heap := h' }) :
    wpAny (model prog w) A (Builtin.«zip.__next__» ⟨[.ref z], []⟩) (fun fin s' => ∃ v, fin = .done (.ret v) ∧ Q v s') E s := by
  show wpAny _ _ (field (.ref z) 2 >>= _) _ _ _
  refine wpAny_bind (wpAny_field hz rfl (x := .bool false) rfl ?_)
  show wpAny _ _ (field (.ref z) 3 >>= _) _ _ _
  refine wpAny_bind (wpAny_field hz rfl (x := .ref TI) rfl ?_)
  refine wpAny_bind (wpAny_seqItems hTI rfl ?_)
  show wpAny _ _ (Builtin.SmallTypes.ownedTupleIsFree (.ref z) >>= _) _ _ _
  refine wpAny_bind (free2 hz hp fun h₁ hz₁ hs₁ => ?_)
  simp only [Bool.false_eq_true, if_false]
  refine wpAny_bind ?_
  rw [← Array.forIn_toList]
  simp only [List.forIn_cons, List.forIn_nil]
  refine wpAny_bind (wpAny_bind (wpAny_holding ?_))
  show wpAny _ _ (Builtin.SmallTypes.nextOf (.ref i1) >>= _) _ _ _
  refine wpAny_bind (nextOf_tuple_item (h1.extBut hs₁.extBut D.i1z) (hl1.extBut hs₁.extBut D.l1z) hx fun h₂ h1₂ hs₂ => wpAny_pure ?_)
  dsimp only
  refine wpAny_pure ?_
  dsimp only
  refine wpAny_bind (wpAny_bind (wpAny_holding ?_))
  show wpAny _ _ (Builtin.SmallTypes.nextOf (.ref i2) >>= _) _ _ _
  refine wpAny_bind (nextOf_tuple_item ((h2.extBut hs₁.extBut D.i2z).extBut hs₂.extBut D.i12.symm)
    ((hl2.extBut hs₁.extBut D.l2z).extBut hs₂.extBut D.l2i1) hy fun h₃ h2₃ hs₃ => wpAny_pure ?_)
  dsimp only
  refine wpAny_pure ?_
  dsimp only
  refine wpAny_pure ?_
  dsimp only
  refine wpAny_bind (wpAny_newTuple (hsz := by show 2 ≤ sizeLine; decide) ?_)
  refine wpAny_pure ⟨_, rfl, ?_⟩
  have hsz : h₃.objs.size = s.heap.objs.size := by rw [hs₃.1, hs₂.1, hs₁.1]
  show Q (.ref h₃.objs.size) _
  have g : ∀ c o, c ≠ z → c ≠ i1 → c ≠ i2 → s.heap.get? c = some o → (h₃.push { cls := .type "tuple", data := .seq #[x, y] }).get? c = some o := fun c o c1 c3 c4 e =>
    Heap.get?_push_of_some _ (hs₃.extBut _ _ c4 (hs₂.extBut _ _ c3 (hs₁.extBut _ _ c1 e)))
  have hT : IsPair (h₃.push { cls := .type "tuple", data := .seq #[x, y] }) h₃.objs.size x y := Heap.get?_push_size _ rfl
  rw [hsz] at hT ⊢
  exact hQ _ (Heap.get?_push_of_some _ (hs₃.extBut _ _ D.i2z.symm (hs₂.extBut _ _ D.i1z.symm hz₁))) ((h1₂.extBut hs₃.extBut D.i12).at fun o e => Heap.get?_push_of_some _ e) (h2₃.at fun o e => Heap.get?_push_of_some _ e) hT (by rw [Heap.size_push, hsz]) g
theorem zipT_next_end2 {z TI TO i1 i2 l1 l2 p : Addr} {bq : Bool} {o : Obj} {k1 k2 : Nat} {xs ys : Array Value} {Q : PySem.Fin → Shared → Prop} (hh : A.handled = none) (D : ZipApart z TI TO i1 i2 l1 l2)
    (hz : IsZip2 s.heap z TI TO p bq) (hp : s.heap.get? p = some o) (hTI : IsPair s.heap TI (.ref i1) (.ref i2))
    (h1 : s.heap.IsTupleIter i1 l1 k1) (h2 : s.heap.IsTupleIter i2 l2 k2) (hl1 : s.heap.IsTuple l1 xs) (hl2 : s.heap.IsTuple l2 ys) (hend : xs[k1]? = none ∨ ys[k2]? = none)
    (hE : ∀ h' e, (∀ c o, c ≠ z → c ≠ i1 → c ≠ i2 → s.heap.get? c = some o → h'.get? c = some o) → (∃ o, h'.get? e = some o ∧ o.cls = .type "StopIteration") → E (.ref e) { s with heap := h' }) :
    wpAny (model prog w) A (Builtin.«zip.__next__» ⟨[.ref z], []⟩) Q E s := by
  show wpAny _ _ (field (.ref z) 2 >>= _) _ _ _
  refine wpAny_bind (wpAny_field hz rfl (x := .bool false) rfl ?_)
  show wpAny _ _ (field (.ref z) 3 >>= _) _ _ _
  refine wpAny_bind (wpAny_field hz rfl (x := .ref TI) rfl ?_)
  refine wpAny_bind (wpAny_seqItems hTI rfl ?_)
  show wpAny _ _ (Builtin.SmallTypes.ownedTupleIsFree (.ref z) >>= _) _ _ _
  refine wpAny_bind (free2 hz hp fun h₁ hz₁ hs₁ => ?_)
  simp only [Bool.false_eq_true, if_false]
  refine wpAny_bind ?_
  rw [← Array.forIn_toList]
  simp only [List.forIn_cons, List.forIn_nil]
  refine wpAny_bind (wpAny_bind (wpAny_holding ?_))
  show wpAny _ _ (Builtin.SmallTypes.nextOf (.ref i1) >>= _) _ _ _
  cases hx : xs[k1]? with
  | none =>
    refine wpAny_bind (nextOf_tuple_end hh (h1.extBut hs₁.extBut D.i1z) (hl1.extBut hs₁.extBut D.l1z) hx fun h₂ e hs₂ he => ?_)
    exact hE h₂ e (fun c o c1 c3 _ x => hs₂ _ _ c3 (hs₁.extBut _ _ c1 x)) he
  | some x =>
    have hy : ys[k2]? = none := by rcases hend with h | h; rw [hx] at h; cases h; exact h
    refine wpAny_bind (nextOf_tuple_item (h1.extBut hs₁.extBut D.i1z) (hl1.extBut hs₁.extBut D.l1z) hx fun h₂ h1₂ hs₂ => wpAny_pure ?_)
    dsimp only
    refine wpAny_pure ?_
    dsimp only
    refine wpAny_bind (wpAny_bind (wpAny_holding ?_))
    show wpAny _ _ (Builtin.SmallTypes.nextOf (.ref i2) >>= _) _ _ _
    refine wpAny_bind (nextOf_tuple_end hh ((h2.extBut hs₁.extBut D.i2z).extBut hs₂.extBut D.i12.symm)
      ((hl2.extBut hs₁.extBut D.l2z).extBut hs₂.extBut D.l2i1) hy fun h₃ e hs₃ he => ?_)
    exact hE h₃ e (fun c o c1 c3 c4 x => hs₃ _ _ c4 (hs₂.extBut _ _ c3 (hs₁.extBut _ _ c1 x))) he
/-- the zip object between two turns -/
def ZS (h : Heap) (S z TI TO i1 i2 : Addr) : Prop := (IsZip h z TI TO .none ∧ ∃ x y, IsPair h TO x y) ∨ ∃ p b o, IsZip2 h z TI TO p b ∧ h.get? p = some o ∧ p ∉ [S, z, TO, i1, i2]
theorem pyNext_zs_item {S z TI TO i1 i2 l1 l2 : Addr} {k1 k2 : Nat} {xs ys : Array Value} {x y : Value} {Q : Option Value → Shared → Prop} (D : ZipApart z TI TO i1 i2 l1 l2) (ltS : S < s.heap.objs.size) (ltTO : TO < s.heap.objs.size)
    (hz : ZS s.heap S z TI TO i1 i2) (hTI : IsPair s.heap TI (.ref i1) (.ref i2))
    (h1 : s.heap.IsTupleIter i1 l1 k1) (h2 : s.heap.IsTupleIter i2 l2 k2) (hl1 : s.heap.IsTuple l1 xs) (hl2 : s.heap.IsTuple l2 ys) (hx : xs[k1]? = some x) (hy : ys[k2]? = some y)
    (hQ : ∀ h', ZS h' S z TI TO i1 i2 → h'.IsTupleIter i1 l1 (k1 + 1) → h'.IsTupleIter i2 l2 (k2 + 1) → IsPair h' s.heap.objs.size x y → h'.objs.size = s.heap.objs.size + 1 →
      (∀ c o, c ≠ z → c ≠ TO → c ≠ i1 → c ≠ i2 → s.heap.get? c = some o → h'.get? c = some o) → s.heap.objs.size ∉ [S, z, TO, i1, i2] → Q (some (.ref s.heap.objs.size)) { s with heap := h' }) :
    wpAny (model prog w) A (pyNext (.ref z)) Q E s := by
  have lti1 : i1 < s.heap.objs.size := by obtain ⟨_, e, _⟩ := h1; exact Heap.lt_size e
  have lti2 : i2 < s.heap.objs.size := by obtain ⟨_, e, _⟩ := h2; exact Heap.lt_size e
  have ltz : z < s.heap.objs.size := by rcases hz with ⟨e, _⟩ | ⟨_, _, _, e, _⟩ <;> exact Heap.lt_size e
  have nw : s.heap.objs.size ∉ [S, z, TO, i1, i2] := by
    simp only [List.mem_cons, List.not_mem_nil, or_false, not_or]
    exact ⟨Nat.ne_of_gt ltS, Nat.ne_of_gt ltz, Nat.ne_of_gt ltTO, Nat.ne_of_gt lti1, Nat.ne_of_gt lti2⟩
  rcases hz with ⟨hz, x0, y0, hTO⟩ | ⟨p, b, o, hz, hp, hn⟩
  · exact pyNext_zipT_item D hz hTI hTO h1 h2 hl1 hl2 hx hy fun h' a1 a2 a3 a4 a5 a6 a7 => hQ h' (.inr ⟨_, _, _, a1, a5, nw⟩) a3 a4 a5 a6 a7 nw
  · have hn2 := hn
    simp only [List.mem_cons, List.not_mem_nil, or_false, not_or] at hn2
    have hT : s.TypeIs (.ref z) "zip" := ⟨_, hz, rfl⟩
    unfold pyNext
    exact wpAny_bind (wpAny_attempt (wpAny_callSpecial?_slot (name := Str.ofString "__next__") hT F.slot_zip_next
      (wpAny_call_entry F.slot_zip_next hT F.entry_zip_next
        (zipT_next_item2 D hz hp hTI h1 h2 hl1 hl2 hx hy fun h' a1 a3 a4 a5 a6 a7 => wpAny_pure (hQ h' (.inr ⟨p, true, o, a1, a7 p o hn2.2.1 hn2.2.2.2.1 hn2.2.2.2.2 hp, hn⟩) a3 a4 a5 a6 (fun c o c1 _ c3 c4 e => a7 c o c1 c3 c4 e) nw)) (F.args_zip_next_1 _))))
theorem pyNext_zs_end {S z TI TO i1 i2 l1 l2 : Addr} {k1 k2 : Nat} {xs ys : Array Value} {Q : Option Value → Shared → Prop} (hh : A.handled = none) (D : ZipApart z TI TO i1 i2 l1 l2)
    (hz : ZS s.heap S z TI TO i1 i2) (hTI : IsPair s.heap TI (.ref i1) (.ref i2))
    (h1 : s.heap.IsTupleIter i1 l1 k1) (h2 : s.heap.IsTupleIter i2 l2 k2) (hl1 : s.heap.IsTuple l1 xs) (hl2 : s.heap.IsTuple l2 ys) (hend : xs[k1]? = none ∨ ys[k2]? = none)
    (hQ : ∀ h', (∀ c o, c ≠ z → c ≠ TO → c ≠ i1 → c ≠ i2 → s.heap.get? c = some o → h'.get? c = some o) → Q none { s with heap := h' }) : wpAny (model prog w) A (pyNext (.ref z)) Q E s := by
  rcases hz with ⟨hz, x0, y0, hTO⟩ | ⟨p, b, o, hz, hp, hn⟩
  · exact pyNext_zipT_end hh D hz hTI hTO h1 h2 hl1 hl2 hend hQ
  · have hT : s.TypeIs (.ref z) "zip" := ⟨_, hz, rfl⟩
    unfold pyNext
    refine wpAny_bind (wpAny_attempt (wpAny_callSpecial?_slot (name := Str.ofString "__next__") hT F.slot_zip_next
      (wpAny_call_entry F.slot_zip_next hT F.entry_zip_next (zipT_next_end2 hh D hz hp hTI h1 h2 hl1 hl2 hend fun h' e hk he => ?_) (F.args_zip_next_1 _))))
    obtain ⟨o, ho, hc⟩ := he
    refine wpAny_bind (wpAny_isInstance (T := "StopIteration") (b := true) ⟨o, ho, hc⟩ isSubtype_stop ?_)
    exact wpAny_pure (hQ _ fun c o c1 _ c3 c4 e => hk c o c1 c3 c4 e)
theorem zs_keep {h h' : Heap} {S z TI TO i1 i2 : Addr} (Z : ZS h S z TI TO i1 i2) (hz : z ≠ S) (hT : TO ≠ S) (k : ∀ b o, b ≠ S → h.get? b = some o → h'.get? b = some o) : ZS h' S z TI TO i1 i2 := by
  rcases Z with ⟨a, x, y, b⟩ | ⟨p, b, o, a, c, d⟩
  · exact .inl ⟨k _ _ hz a, x, y, k _ _ hT b⟩
  · exact .inr ⟨p, b, o, k _ _ hz a, k _ _ (fun e => d (by rw [e]; simp)) c, d⟩
end
abbrev lstAt (h : Heap) (S : Addr) (acc : Array Value) (c : Nat) : Prop := h.get? S = some { cls := .type "list", dict := none, data := .seq acc c, slots := #[] }
structure ZL (h : Heap) (S z TI TO i1 i2 l1 l2 : Addr) (xs ys : Array Value) (B : Nat) (acc : Array Value) (c i : Nat) (ts : List (Addr × Value × Value)) : Prop where
  zs : ZS h S z TI TO i1 i2
  ti : IsPair h TI (.ref i1) (.ref i2)
  lto : TO < h.objs.size
  h1 : h.IsTupleIter i1 l1 i
  h2 : h.IsTupleIter i2 l2 i
  t1 : h.IsTuple l1 xs
  t2 : h.IsTuple l2 ys
  ls : lstAt h S acc c
  acc : acc.toList = ts.map fun t => Value.ref t.1
  len : ts.length = i
  val : ts.map (·.2) = (xs.toList.zip ys.toList).take i
  obj : ∀ t ∈ ts, IsPair h t.1 t.2.1 t.2.2
  new : ∀ t ∈ ts, B ≤ t.1 ∧ t.1 ∉ [S, z, TO, i1, i2]
  nd : (ts.map (·.1)).Nodup
theorem tupAt {h h' : Heap} {l : Addr} {xs : Array Value} (t : h.IsTuple l xs) (k : ∀ o, h.get? l = some o → h'.get? l = some o) : h'.IsTuple l xs := by
  obtain ⟨o, e, r⟩ := t
  exact ⟨o, k o e, r⟩
section
variable {prog : Program} {w : World} {A : Around} {E : Value → Shared → Prop} {s : Shared}
theorem zip_loop {R : Result → Shared → Prop} {S z TI TO i1 i2 l1 l2 : Addr} {xs ys : Array Value} {B : Nat} (hh : A.handled = none) (D : ZipApart z TI TO i1 i2 l1 l2) (hS : S ∉ [z, TI, TO, i1, i2, l1, l2]) (hn : min xs.size ys.size ≤ sizeLine) (res : Value) :
    ∀ (k i : Nat) (s : Shared) (acc : Array Value) (c : Nat) (ts : List (Addr × Value × Value)), min xs.size ys.size - i = k → i ≤ min xs.size ys.size → ZL s.heap S z TI TO i1 i2 l1 l2 xs ys B acc c i ts → B ≤ s.heap.objs.size →
    (∀ (h' : Heap) (acc' : Array Value) (c' : Nat) (ts' : List (Addr × Value × Value)), (∀ b o, b ∉ [S, z, TO, i1, i2] → s.heap.get? b = some o → h'.get? b = some o) → lstAt h' S acc' c' → acc'.toList = ts'.map (fun t => Value.ref t.1) →
      ts'.map (·.2) = xs.toList.zip ys.toList → (∀ t ∈ ts', IsPair h' t.1 t.2.1 t.2.2) → (∀ t ∈ ts', B ≤ t.1 ∧ t.1 ≠ S) → (ts'.map (·.1)).Nodup → R (.ok (.ret res)) { s with heap := h' }) →
    codeAny (model prog w) A (.builtin "list.extend.loop" ⟨[.ref S, .ref z, res], []⟩) R s := by
  simp only [List.mem_cons, List.not_mem_nil, or_false, not_or] at hS
  obtain ⟨hSz, hSTI, hSTO, hSi1, hSi2, hSl1, hSl2⟩ := hS
  have hh1 : A.in1.handled = none := hh
  intro k
  induction k with
  | zero =>
    intro i s acc c ts hk hi Z hB hR
    refine codeAny_builtin F.entry_extend_loop ?_
    rw [Around.under_plainId F.plain_extend_loop _]
    show wpAny _ A.in1 (pyNext (.ref z) >>= _) _ _ s
    have hend : xs[i]? = none ∨ ys[i]? = none := by
      by_cases hx : xs.size ≤ i
      · exact .inl (Array.getElem?_eq_none hx)
      · exact .inr (Array.getElem?_eq_none (by omega))
    refine wpAny_bind (pyNext_zs_end hh1 D Z.zs Z.ti Z.h1 Z.h2 Z.t1 Z.t2 hend fun h' hk' => ?_)
    refine wpAny_pure (hR h' acc c ts (fun b o hb e => ?_) (hk' S _ hSz hSTO hSi1 hSi2 Z.ls) Z.acc ?_ (fun t ht => ?_) (fun t ht => ⟨(Z.new t ht).1, fun e => (Z.new t ht).2 (by rw [e]; simp)⟩) Z.nd)
    · simp only [List.mem_cons, List.not_mem_nil, or_false, not_or] at hb
      exact hk' b o hb.2.1 hb.2.2.1 hb.2.2.2.1 hb.2.2.2.2 e
    · rw [Z.val]
      refine List.take_of_length_le ?_
      rw [List.length_zip, Array.length_toList, Array.length_toList]
      omega
    · have q := (Z.new t ht).2
      simp only [List.mem_cons, List.not_mem_nil, or_false, not_or] at q
      exact hk' _ _ q.2.1 q.2.2.1 q.2.2.2.1 q.2.2.2.2 (Z.obj t ht)
  | succ k ih =>
    intro i s acc c ts hk hi Z hB hR
    have hlt : i < min xs.size ys.size := by omega
    have hx : xs[i]? = some (xs[i]'(by omega)) := Array.getElem?_eq_getElem _
    have hy : ys[i]? = some (ys[i]'(by omega)) := Array.getElem?_eq_getElem _
    generalize xs[i]'(by omega) = x at hx
    generalize ys[i]'(by omega) = y at hy
    refine codeAny_builtin F.entry_extend_loop ?_
    rw [Around.under_plainId F.plain_extend_loop _]
    show wpAny _ A.in1 (pyNext (.ref z) >>= _) _ _ s
    refine wpAny_bind (pyNext_zs_item D (Heap.lt_size Z.ls) Z.lto Z.zs Z.ti Z.h1 Z.h2 Z.t1 Z.t2 hx hy fun h' a1 a3 a4 a5 a6 a7 nw => ?_)
    have hS' : lstAt h' S acc c := a7 S _ hSz hSTO hSi1 hSi2 Z.ls
    show wpAny _ A.in1 (updateSeq S (·.push (.ref s.heap.objs.size)) >>= _) _ _ _
    have hacc : acc.size = i := by rw [← Array.length_toList, Z.acc, List.length_map, Z.len]
    refine wpAny_bind ?_
    have ltS : S < s.heap.objs.size := Heap.lt_size Z.ls
    obtain ⟨c2, hS2⟩ : ∃ c2, lstAt (h'.update S (Obj.mapSeq (·.push (.ref s.heap.objs.size)))) S (acc.push (.ref s.heap.objs.size)) c2 := ⟨_, Heap.get?_update_self _ hS' rfl⟩
    refine wpAny_updateSeq hS' rfl (wpAny_pure ⟨plainId_quiet F.plain_extend_loop _, ih (i + 1) _ (acc.push (.ref s.heap.objs.size)) c2 (ts ++ [(s.heap.objs.size, x, y)]) (by omega) hlt ?_ ?_ fun h2 acc' c' ts' b1 b2 b3 b4 b5 b6 b7 => hR h2 acc' c' ts' (fun b o hb e => b1 b o hb ?_) b2 b3 b4 b5 b6 b7⟩) (by rw [hacc]; omega) (by show (acc.push _).size ≤ sizeLine + 1; rw [Array.size_push, hacc]; omega)
    · have oth : ∀ b o, b ≠ S → h'.get? b = some o → (h'.update S (Obj.mapSeq (·.push (.ref s.heap.objs.size)))).get? b = some o := fun b o hb e => (Heap.get?_update_other _ _ (Ne.symm hb)).trans e
      exact {
        zs := zs_keep a1 (Ne.symm hSz) (Ne.symm hSTO) oth
        ti := oth _ _ (Ne.symm hSTI) (a7 TI _ D.TIz D.TITO D.TIi1 D.TIi2 Z.ti)
        lto := by
          show TO < (h'.update S _).objs.size
          rw [Heap.size_update, a6]
          exact Nat.lt_succ_of_lt Z.lto
        h1 := a3.at fun o q => oth _ _ (Ne.symm hSi1) q
        h2 := a4.at fun o q => oth _ _ (Ne.symm hSi2) q
        t1 := tupAt Z.t1 fun o q => oth _ _ (Ne.symm hSl1) (a7 l1 _ D.l1z D.l1TO D.l1i1 D.l1i2 q)
        t2 := tupAt Z.t2 fun o q => oth _ _ (Ne.symm hSl2) (a7 l2 _ D.l2z D.l2TO D.l2i1 D.l2i2 q)
        ls := hS2
        acc := by rw [Array.toList_push, Z.acc, List.map_append] <;> rfl
        len := by rw [List.length_append, Z.len] <;> rfl
        val := by
          rw [List.map_append, Z.val, List.take_add_one]
          have e : (xs.toList.zip ys.toList)[i]? = some (x, y) := by
            rw [List.getElem?_zip_eq_some]
            exact ⟨by rw [Array.getElem?_toList]; exact hx, by rw [Array.getElem?_toList]; exact hy⟩
          rw [e] <;> rfl
        obj := fun t ht => by
          rcases List.mem_append.mp ht with q | q
          · have n := (Z.new t q).2
            simp only [List.mem_cons, List.not_mem_nil, or_false, not_or] at n
            exact oth _ _ n.1 (a7 _ _ n.2.1 n.2.2.1 n.2.2.2.1 n.2.2.2.2 (Z.obj t q))
          · rw [List.mem_singleton.mp q]
            exact oth _ _ (Nat.ne_of_gt ltS) a5
        new := fun t ht => by
          rcases List.mem_append.mp ht with q | q
          · exact Z.new t q
          · rw [List.mem_singleton.mp q]
            exact ⟨hB, nw⟩
        nd := by
          rw [List.map_append, List.nodup_append]
          refine ⟨Z.nd, by simp, fun a ha b hb e => ?_⟩
          have hb := List.mem_singleton.mp hb
          obtain ⟨t, ht, e2⟩ := List.mem_map.mp ha
          have := Heap.lt_size (Z.obj t ht)
          rw [e2, e, hb] at this
          exact Nat.lt_irrefl _ this }
    · show B ≤ (h'.update S _).objs.size
      rw [Heap.size_update, a6]
      omega
    · simp only [List.mem_cons, List.not_mem_nil, or_false, not_or] at hb
      exact (Heap.get?_update_other _ _ (Ne.symm hb.1)).trans (a7 b o hb.2.1 hb.2.2.1 hb.2.2.2.1 hb.2.2.2.2 e)
theorem nolen_zip : typeLookup (.type "zip") "__len__" = pure none := by rw [typeLookup_type, builtinLookup_eq_fast]; kernel_rfl
theorem nohint_zip : typeLookup (.type "zip") "__length_hint__" = pure none := by rw [typeLookup_type, builtinLookup_eq_fast]; kernel_rfl
theorem zip_hint {z TI TO : Addr} {f0 : Value} {Q : Bool → Shared → Prop} (hz : IsZip s.heap z TI TO f0) (h : Q true s) : wpAny (model prog w) A (Builtin.List.listLengthHint (.ref z)) Q E s := by
  have hT : s.TypeIs (.ref z) "zip" := ⟨_, hz, rfl⟩
  unfold Builtin.List.listLengthHint
  refine wpAny_bind (wpAny_specialOf hT nolen_zip ?_)
  show wpAny _ _ (specialOf (Value.ref z) (Str.ofString "__length_hint__") >>= _) _ _ _
  refine wpAny_bind (wpAny_specialOf hT nohint_zip ?_)
  exact wpAny_pure h
theorem zl_keep {h h' : Heap} {S z TI TO i1 i2 l1 l2 : Addr} {xs ys acc : Array Value} {B c c' i : Nat} {ts : List (Addr × Value × Value)} (hS : S ∉ [z, TI, TO, i1, i2, l1, l2]) (Z : ZL h S z TI TO i1 i2 l1 l2 xs ys B acc c i ts)
    (k : ∀ b o, b ≠ S → h.get? b = some o → h'.get? b = some o) (hl : lstAt h' S acc c') (sz : h.objs.size ≤ h'.objs.size) : ZL h' S z TI TO i1 i2 l1 l2 xs ys B acc c' i ts := by
  simp only [List.mem_cons, List.not_mem_nil, or_false, not_or] at hS
  obtain ⟨hSz, hSTI, hSTO, hSi1, hSi2, hSl1, hSl2⟩ := hS
  exact {
    zs := zs_keep Z.zs (Ne.symm hSz) (Ne.symm hSTO) k
    ti := k _ _ (Ne.symm hSTI) Z.ti
    lto := Nat.lt_of_lt_of_le Z.lto sz
    h1 := Z.h1.at fun o q => k _ _ (Ne.symm hSi1) q
    h2 := Z.h2.at fun o q => k _ _ (Ne.symm hSi2) q
    t1 := tupAt Z.t1 fun o q => k _ _ (Ne.symm hSl1) q
    t2 := tupAt Z.t2 fun o q => k _ _ (Ne.symm hSl2) q
    ls := hl
    acc := Z.acc
    len := Z.len
    val := Z.val
    obj := fun t ht => k _ _ (fun e => (Z.new t ht).2 (by rw [e]; simp)) (Z.obj t ht)
    new := Z.new
    nd := Z.nd }
abbrev ZFin (s : Shared) (S z TO i1 i2 : Addr) (xs ys : Array Value) (B : Nat) (K : Heap → Prop) : Prop :=
  ∀ (h' : Heap) (acc' : Array Value) (c' : Nat) (ts' : List (Addr × Value × Value)), (∀ b o, b ∉ [S, z, TO, i1, i2] → s.heap.get? b = some o → h'.get? b = some o) → lstAt h' S acc' c' → acc'.toList = ts'.map (fun t => Value.ref t.1) →
      ts'.map (·.2) = xs.toList.zip ys.toList → (∀ t ∈ ts', IsPair h' t.1 t.2.1 t.2.2) → (∀ t ∈ ts', B ≤ t.1 ∧ t.1 ≠ S) → (ts'.map (·.1)).Nodup → K h'
theorem zip_extend {R : Result → Shared → Prop} {S z TI TO i1 i2 l1 l2 : Addr} {xs ys : Array Value} {B c : Nat} (hh : A.handled = none) (D : ZipApart z TI TO i1 i2 l1 l2) (hS : S ∉ [z, TI, TO, i1, i2, l1, l2]) (hn : min xs.size ys.size ≤ sizeLine) (res : Value)
    (hz : IsZip s.heap z TI TO .none) (Z : ZL s.heap S z TI TO i1 i2 l1 l2 xs ys B #[] c 0 []) (hB : B ≤ s.heap.objs.size) (hR : ZFin s S z TO i1 i2 xs ys B fun h' => R (.ok (.ret res)) { s with heap := h' }) :
    wpAny (model prog w) A.in1 (Builtin.List.listExtendWith (.ref S) (.ref z) res)
      (fun fin s' => match fin with | .done f => R (.ok f) s' | .again c' => c'.quiet = true ∧ codeAny (model prog w) A c' R s') (fun e s' => R (.error e) s') s := by
  have key : ∀ (h : Heap) (c1 : Nat), (∀ b o, b ≠ S → s.heap.get? b = some o → h.get? b = some o) → h.objs.size = s.heap.objs.size → lstAt h S #[] c1 →
      codeAny (model prog w) A (.builtin "list.extend.loop" ⟨[.ref S, .ref z, res], []⟩) R { s with heap := h } := fun h c1 k sz hl => by
    refine zip_loop hh D hS hn res _ 0 _ #[] c1 [] rfl (Nat.zero_le _) (zl_keep hS Z k hl (Nat.le_of_eq sz.symm)) (by show B ≤ h.objs.size; rw [sz]; exact hB) fun h' acc' c' ts' a1 a2 a3 a4 a5 a6 a7 => ?_
    exact hR h' acc' c' ts' (fun b o hb e => a1 b o hb (k b o (fun q => hb (by rw [q]; simp)) e)) a2 a3 a4 a5 a6 a7
  have hSz : S ≠ z := fun e => hS (by rw [e]; simp)
  unfold Builtin.List.listExtendWith
  refine wpAny_bind (wpAny_typeOf (T := "zip") ⟨_, hz, rfl⟩ ?_)
  have h1 : Builtin.List.listSameRef (.ref S) (.ref z) = false := by simp [Builtin.List.listSameRef, hSz]
  have h2 : (Value.type "zip" == Value.type "list") = false := by decide
  have h3 : (Value.type "zip" == Value.type "tuple") = false := by decide
  simp only [h1, h2, h3, Bool.or_false, Bool.false_eq_true, if_false]
  refine wpAny_bind (wpAny_pyIter_zip hz ?_)
  refine wpAny_bind (wpAny_holding (zip_hint hz ?_))
  refine wpAny_ite_split (fun _ => ?_) (fun _ => wpAny_pure ⟨plainId_quiet PySem.F.plain_extend_loop _, key s.heap c (fun b o _ e => e) rfl Z.ls⟩)
  refine wpAny_bind (wpAny_rule ?_)
  refine wpAny_bind ?_
  show wpAny _ _ (updateSeq S (·.push .none) >>= fun _ => updateSeq S (·.pop)) _ _ _
  refine wpAny_bind (wpAny_updateSeq Z.ls rfl ?_)
  have hS₂ := Heap.get?_update_self (Obj.mapSeq (·.push Value.none)) Z.ls rfl
  refine wpAny_updateSeq (hz := by seq_fits) hS₂ rfl ?_
  have hS₃ := Heap.get?_update_self (Obj.mapSeq (·.pop)) hS₂ rfl
  refine wpAny_pure ⟨plainId_quiet PySem.F.plain_extend_loop _, key _ _ (fun b o hb e => ?_) ?_ hS₃⟩
  · exact (Heap.get?_update_other _ _ (Ne.symm hb)).trans ((Heap.get?_update_other _ _ (Ne.symm hb)).trans e)
  · rw [Heap.size_update, Heap.size_update]
theorem zip_init {R : Result → Shared → Prop} {S z TI TO i1 i2 l1 l2 : Addr} {xs ys : Array Value} {B c : Nat} (hh : A.handled = none) (D : ZipApart z TI TO i1 i2 l1 l2) (hS : S ∉ [z, TI, TO, i1, i2, l1, l2]) (hn : min xs.size ys.size ≤ sizeLine)
    (hz : IsZip s.heap z TI TO .none) (Z : ZL s.heap S z TI TO i1 i2 l1 l2 xs ys B #[] c 0 []) (hB : B ≤ s.heap.objs.size) (hR : ZFin s S z TO i1 i2 xs ys B fun h' => R (.ok (.ret .none)) { s with heap := h' }) :
    wpAny (model prog w) A.in1 (Builtin.«list.__init__» ⟨[.ref S, .ref z], []⟩)
      (fun fin s' => match fin with | .done f => R (.ok f) s' | .again c' => c'.quiet = true ∧ codeAny (model prog w) A c' R s') (fun e s' => R (.error e) s') s := by
  show wpAny _ _ (do let old ← Builtin.List.listItems (.ref S); Builtin.List.listUpdate (.ref S) (fun _ => #[]); letGo old.toList.reverse; Builtin.List.listExtendWith (.ref S) (.ref z) .none) _ _ s
  have hSz : S ≠ z := fun e => hS (by rw [e]; simp)
  refine wpAny_bind ?_
  unfold Builtin.List.listItems
  refine wpAny_bind (wpAny_seqItems Z.ls rfl (wpAny_pure ?_))
  show wpAny _ _ (updateSeq S (fun _ => #[]) >>= fun _ => letGo (#[] : Array Value).toList.reverse >>= fun _ => Builtin.List.listExtendWith (.ref S) (.ref z) .none) _ _ s
  refine wpAny_bind (wpAny_updateSeq Z.ls rfl ?_)
  have hS₂ := Heap.get?_update_self (Obj.mapSeq (fun _ => (#[] : Array Value))) Z.ls rfl
  have oth : ∀ b o, b ≠ S → s.heap.get? b = some o → (s.heap.update S (Obj.mapSeq (fun _ => (#[] : Array Value)))).get? b = some o :=
    fun b o hb e => (Heap.get?_update_other _ _ (Ne.symm hb)).trans e
  refine wpAny_bind (wpAny_letGo ?_)
  have sz : (s.heap.update S (Obj.mapSeq (fun _ => (#[] : Array Value)))).objs.size = s.heap.objs.size := Heap.size_update ..
  refine zip_extend hh D hS hn .none (oth _ _ (Ne.symm hSz) hz) (zl_keep hS Z oth hS₂ (Nat.le_of_eq sz.symm)) (by rw [sz]; exact hB) fun h' acc' c' ts' a1 a2 a3 a4 a5 a6 a7 => ?_
  exact hR h' acc' c' ts' (fun b o hb e => a1 b o hb (oth b o (fun q => hb (by rw [q]; simp)) e)) a2 a3 a4 a5 a6 a7
theorem call_listZip {Q : Value → Shared → Prop} {z TI TO i1 i2 l1 l2 : Addr} {xs ys : Array Value} {B : Nat} (hh : A.handled = none) (D : ZipApart z TI TO i1 i2 l1 l2) (hn : min xs.size ys.size ≤ sizeLine)
    (hz : IsZip s.heap z TI TO .none) (hTI : IsPair s.heap TI (.ref i1) (.ref i2)) (hTO : IsPair s.heap TO .none .none) (h1 : s.heap.IsTupleIter i1 l1 0) (h2 : s.heap.IsTupleIter i2 l2 0) (t1 : s.heap.IsTuple l1 xs) (t2 : s.heap.IsTuple l2 ys) (hB : B ≤ s.heap.objs.size)
    (hQ : ZFin s s.heap.objs.size z TO i1 i2 xs ys B fun h' => Q (.ref s.heap.objs.size) { s with heap := h' }) :
    wpAny (model prog w) A (call (.type "list") [.ref z]) Q E s := by
  have gl : ∀ {b : Addr} {o : Obj}, s.heap.get? b = some o → s.heap.objs.size ≠ b := fun e q => absurd (Heap.lt_size e) (by rw [← q]; exact Nat.lt_irrefl _)
  have hS : s.heap.objs.size ∉ [z, TI, TO, i1, i2, l1, l2] := by
    simp only [List.mem_cons, List.not_mem_nil, or_false, not_or]
    obtain ⟨_, e1, _⟩ := id h1
    obtain ⟨_, e2, _⟩ := id h2
    obtain ⟨_, e3, _⟩ := id t1
    obtain ⟨_, e4, _⟩ := id t2
    exact ⟨gl hz, gl hTI, gl hTO, gl e1, gl e2, gl e3, gl e4⟩
  refine callType_codes (Q₁ := fun obj s₁ => obj = .ref s.heap.objs.size ∧ s₁ = { s with heap := s.heap.push { cls := .type "list", data := .seq #[] } }) PySem.F.called_list (PySem.F.typeCall_list_1 _) PySem.F.entry_list_init
    (code_list_new _ ⟨rfl, rfl⟩) fun obj s₁ h₁ => ?_
  obtain ⟨rfl, rfl⟩ := h₁
  have hl : (s.heap.push { cls := .type "list", data := .seq #[] }).get? s.heap.objs.size = some { cls := .type "list", data := .seq #[] } := Heap.get?_push_size _ rfl
  have up : ∀ b o, s.heap.get? b = some o → (s.heap.push { cls := .type "list", data := .seq #[] }).get? b = some o := fun b o e => Heap.get?_push_of_some _ e
  have Z : ZL (s.heap.push { cls := .type "list", data := .seq #[] }) s.heap.objs.size z TI TO i1 i2 l1 l2 xs ys B #[] 0 0 [] := {
    zs := .inl ⟨up _ _ hz, _, _, up _ _ hTO⟩
    ti := up _ _ hTI
    lto := Heap.lt_size (up _ _ hTO)
    h1 := h1.at fun o q => up _ _ q
    h2 := h2.at fun o q => up _ _ q
    t1 := tupAt t1 fun o q => up _ _ q
    t2 := tupAt t2 fun o q => up _ _ q
    ls := hl
    acc := rfl
    len := rfl
    val := by simp
    obj := fun t ht => nomatch ht
    new := fun t ht => nomatch ht
    nd := List.nodup_nil }
  refine ⟨⟨_, hl, rfl⟩, PySem.F.args_list_init_2 _ _, zip_init (A := A.in1) hh D hS hn (up _ _ hz) Z (by show B ≤ (s.heap.push _).objs.size; rw [Heap.size_push]; exact Nat.le_succ_of_le hB) fun h' acc' c' ts' a1 a2 a3 a4 a5 a6 a7 => ?_⟩
  exact ⟨rfl, hQ h' acc' c' ts' (fun b o hb e => a1 b o hb (up b o e)) a2 a3 a4 a5 a6 a7⟩
end
end DL
end
section
set_option Elab.async false
set_option linter.all false
set_option maxRecDepth 100000
set_option maxHeartbeats 4000000
/-! DLY: list(zip(a, b)) of two tuples, as a rule. -/
namespace DL
open PySem PySem.Spec L2 RZ
open PyProof.Rows hiding St
def updAll : Hp → List (Addr × V × V) → Hp
  | H, [] => H
  | H, t :: ts => updAll (upd H t.1 (.tup [t.2.1, t.2.2])) ts
theorem mkTs : ∀ (xs ys : List V) (us vs : List Value) (ts' : List (Addr × Value × Value)), Vals xs us → Vals ys vs → ts'.map (·.2) = us.zip vs →
    ∃ ts : List (Addr × V × V), ts.map (·.2) = xs.zip ys ∧ ts.map (·.1) = ts'.map (·.1) ∧ ∀ t ∈ ts, ∃ u v, (t.1, u, v) ∈ ts' ∧ RelV t.2.1 u ∧ RelV t.2.2 v
  | [], ys, _, vs, ts', .nil, _, e => by
    rw [List.zip_nil_left] at e
    have e2 : ts' = [] := List.map_eq_nil_iff.mp e
    subst e2
    exact ⟨[], by simp, rfl, fun t ht => nomatch ht⟩
  | x :: xs, [], _, _, ts', _, .nil, e => by
    rw [List.zip_nil_right] at e
    have e2 : ts' = [] := List.map_eq_nil_iff.mp e
    subst e2
    exact ⟨[], by simp, rfl, fun t ht => nomatch ht⟩
  | x :: xs, y :: ys, u :: us, v :: vs, ts', .cons r1 a, .cons r2 b, e => by
    cases ts' with
    | nil => simp at e
    | cons t' ts' =>
      rw [List.zip_cons_cons, List.map_cons] at e
      injection e with e1 e2
      obtain ⟨p, uv⟩ := t'
      have e1 : uv = (u, v) := e1
      subst e1
      obtain ⟨ts, h1, h2, h3⟩ := mkTs xs ys us vs ts' a b e2
      refine ⟨(p, x, y) :: ts, by rw [List.map_cons, List.zip_cons_cons, h1], by rw [List.map_cons, List.map_cons, h2], fun t ht => ?_⟩
      rcases List.mem_cons.mp ht with q | q
      · rw [q]; exact ⟨u, v, List.mem_cons_self, r1, r2⟩
      · obtain ⟨u', v', m, r, r'⟩ := h3 t q
        exact ⟨u', v', List.mem_cons_of_mem _ m, r, r'⟩
theorem updAll_ne : ∀ (ts : List (Addr × V × V)) (H : Hp) {b : Addr}, b ∉ ts.map (·.1) → updAll H ts b = H b
  | [], _, _, _ => rfl
  | t :: ts, H, b, h => by
    rw [List.map_cons, List.mem_cons, not_or] at h
    show updAll (upd H t.1 _) ts b = H b
    rw [updAll_ne ts _ h.2, upd_ne h.1]
theorem updAll_same : ∀ (ts : List (Addr × V × V)) (H : Hp), (∀ t ∈ ts, H t.1 = none) → (ts.map (·.1)).Nodup → Same H (updAll H ts)
  | [], _, _, _ => Same.refl _
  | t :: ts, H, h, nd => by
    rw [List.map_cons, List.nodup_cons] at nd
    refine (same_upd (h t List.mem_cons_self)).trans (updAll_same ts _ (fun t' ht' => ?_) nd.2)
    have : t'.1 ≠ t.1 := fun e => nd.1 (by rw [← e]; exact List.mem_map.mpr ⟨t', ht', rfl⟩)
    rw [upd_ne this]
    exact h t' (List.mem_cons_of_mem _ ht')
theorem hok_all {P : Program} {w : World} {h' : Heap} : ∀ (ts : List (Addr × V × V)) (H : Hp), HOk P w H h' → (∀ t ∈ ts, H t.1 = none) → (ts.map (·.1)).Nodup → (∀ t ∈ ts, ∃ u v, IsPair h' t.1 u v ∧ RelV t.2.1 u ∧ RelV t.2.2 v) → HOk P w (updAll H ts) h'
  | [], _, x, _, _, _ => x
  | t :: ts, H, x, hn, nd, hp => by
    rw [List.map_cons, List.nodup_cons] at nd
    obtain ⟨u, v, p, r1, r2⟩ := hp t List.mem_cons_self
    refine hok_all ts _ (x.laidN (fun _ _ e => e) (hn t List.mem_cons_self) ⟨by show 2 ≤ sizeLine; decide, [u, v], .cons r1 (.cons r2 .nil), ⟨_, p, rfl, _, rfl⟩⟩) (fun t' ht' => ?_) nd.2 fun t' ht' => hp t' (List.mem_cons_of_mem _ ht')
    have : t'.1 ≠ t.1 := fun e => nd.1 (by rw [← e]; exact List.mem_map.mpr ⟨t', ht', rfl⟩)
    rw [upd_ne this]
    exact hn t' (List.mem_cons_of_mem _ ht')
theorem un_ext {fs ex : List Addr} {H H' : Hp} {h h' : Heap} (k : ∀ b u, h.get? b = some u → h'.get? b = some u) (sm : Same H H') (nw : ∀ a, H a = none → H' a ≠ none → h.objs.size ≤ a) : Un fs ex H H' h h' where
  keep := fun b u q _ _ _ => k b u q
  slot := fun b u q _ _ _ => ⟨u.slots, k b u q⟩
  free := fun b u q n _ => by
    cases e : H' b with
    | none => rfl
    | some o => exact absurd (Heap.lt_size q) (Nat.not_lt.mpr (nw b n (by rw [e]; simp)))
  there := fun b u q _ => ⟨u, k b u q⟩
  tups := fun b xs q => sm _ _ q
  frzs := fun b u xs q => sm _ _ q
  tbls := fun b ps q => ⟨#[], by rw [sm _ _ q]; simp⟩
theorem vals_refs2 : ∀ {ts : List (Addr × V × V)} {ts' : List (Addr × Value × Value)}, ts.map (·.1) = ts'.map (·.1) → Vals (ts.map fun t => V.ref t.1) (ts'.map fun t => Value.ref t.1)
  | [], [], _ => .nil
  | [], _ :: _, e => by simp at e
  | _ :: _, [], e => by simp at e
  | t :: ts, t' :: ts', e => by
    rw [List.map_cons, List.map_cons] at e
    injection e with e1 e2
    rw [List.map_cons, List.map_cons, e1]
    exact .cons rfl (vals_refs2 e2)
section
variable {X : Cx} {e e2 : Expr} {ta : TA} {p pos p2 p3 : Pos}
def tLZ (K : PySem.W.Frag) (ta : TA) : TE := fun σ H Q => ta σ H fun vs H1 => ∃ (a b : Addr) (xs ys : List V), vs = [.ref a, .ref b] ∧ SqT K H1 a xs ∧ SqT K H1 b ys ∧
  ∀ (ts : List (Addr × V × V)) (S : Addr), ts.map (·.2) = xs.zip ys → (ts.map (·.1)).Nodup → S ∉ ts.map (·.1) → (∀ t ∈ ts, H1 t.1 = none) → H1 S = none → Q (.ref S) (upd (updAll H1 ts) S (.lst (ts.map fun t => V.ref t.1)))
theorem pe_listZip (hc : X.calm = true) (hg : Gl X "list") (hm : X.mg "list" = none) (hg2 : Gl X "zip") (hm2 : X.mg "zip" = none) (ha : PA X [e, e2] ta)
    (hs : starEach [e, e2] X.env = (false, eval e X.env) :: starEach [e2] X.env := by rfl) (hpl : (backTo p3 (starEach [e2] X.env)).any (·.1) = false := by rfl) (na : starEach [.Call (.Name "zip" p2) [e, e2] [] p3] X.env = (false, eval (.Call (.Name "zip" p2) [e, e2] [] p3) X.env) :: starEach [] X.env := by rfl) :
    PE X (.Call (.Name "list" p) [.Call (.Name "zip" p2) [e, e2] [] p3] [] pos) (tLZ X.K ta) := by
  refine ⟨fun pins s σ H Q I h => ?_⟩
  refine Call_ (ld_blt I hg hm boot_list (PyProof.Rows.callWith_type1 (args_cons ?_ na) na))
  refine Call_ (ld_blt I hg2 hm2 PyProof.Rows.boot_zip (PyProof.Rows.callWith_type1 (thn (ha.run p3 pins s σ H _ I h) fun us s1 ⟨vs, H1, I1, r1, q1⟩ => ?_) hs hpl))
  obtain ⟨a, b, xs, ys, ex, hqx, hqy, q⟩ := q1
  subst ex
  cases r1 with
  | cons r rr =>
    cases rr with
    | cons r' rr =>
      cases rr
      cases r
      cases r'
      obtain ⟨its, rv, p1, hz1⟩ := I1.tuple hqx
      obtain ⟨its2, rv2, p2, hz2⟩ := I1.tuple hqy
      obtain ⟨o1, ho1, _⟩ := id p1
      obtain ⟨o2, ho2, _⟩ := id p2
      refine call_zipT (show s1.heap.IsTuple a its.toArray from p1) (show s1.heap.IsTuple b its2.toArray from p2) fun h1 hz hTI hTO i1 i2 hsz hk => ?_
      refine args_nil ?_
      have hmin : min its.toArray.size its2.toArray.size ≤ sizeLine := by
        rw [List.size_toArray, List.size_toArray, ← rv.length]
        omega
      refine call_listZip (s := { s1 with heap := h1 }) (B := s1.heap.objs.size) (I1.ok.hd hc) (PySem.W.ktu_apart s1.heap.objs.size a b (Heap.lt_size ho1) (Heap.lt_size ho2)) hmin hz hTI hTO i1 i2 (tupAt (show s1.heap.IsTuple a its.toArray from p1) fun o e => hk _ _ e) (tupAt (show s1.heap.IsTuple b its2.toArray from p2) fun o e => hk _ _ e) (by show s1.heap.objs.size ≤ h1.objs.size; rw [hsz]; omega) fun h' acc' c' ts' a1 a2 a3 a4 a5 a6 a7 => ?_
      have hsz : h1.objs.size = s1.heap.objs.size + 5 := hsz
      obtain ⟨ts, t1, t2, t3⟩ := mkTs xs ys its its2 ts' rv rv2 (by simpa using a4)
      have kall : ∀ b o, s1.heap.get? b = some o → h'.get? b = some o := fun b o e => by
        have lt := Heap.lt_size e
        refine a1 b o ?_ (hk b o e)
        simp only [List.mem_cons, List.not_mem_nil, or_false, not_or]
        refine ⟨?_, ?_, ?_, ?_, ?_⟩ <;> (first | (show b ≠ h1.objs.size; rw [hsz]) | skip) <;> exact Nat.ne_of_lt (Nat.lt_of_lt_of_le lt (by omega))
      have fr : ∀ t ∈ ts, H1 t.1 = none := fun t ht => by
        obtain ⟨u, v, m, _, _⟩ := t3 t ht
        exact I1.hok.fresh (a6 _ m).1
      have nd : (ts.map (·.1)).Nodup := by rw [t2]; exact a7
      have hSn : h1.objs.size ∉ ts.map (·.1) := fun hm => by
        rw [t2] at hm
        obtain ⟨t, ht, e⟩ := List.mem_map.mp hm
        exact (a6 t ht).2 e
      have hSf : H1 h1.objs.size = none := I1.hok.fresh (by rw [hsz]; omega)
      have ok0 : HOk X.prog X.w H1 h' := I1.hok.kept kall
      have ok1 : HOk X.prog X.w (updAll H1 ts) h' := hok_all ts H1 ok0 fr nd fun t ht => by
        obtain ⟨u, v, m, r1, r2⟩ := t3 t ht
        exact ⟨u, v, a5 _ m, r1, r2⟩
      have sm := updAll_same ts H1 fr nd
      have hS1 : updAll H1 ts h1.objs.size = none := by rw [updAll_ne ts H1 hSn]; exact hSf
      have hlen : ts.length ≤ sizeLine := by
        have z : (ts.map (·.2)).length = (xs.zip ys).length := by rw [t1]
        rw [List.length_map, List.length_zip] at z
        omega
      have ok2 : HOk X.prog X.w (upd (updAll H1 ts) h1.objs.size (.lst (ts.map fun t => V.ref t.1))) h' := ok1.laidN (fun _ _ e => e) hS1 ⟨by rw [List.length_map]; exact hlen, acc'.toList, c', by rw [a3]; exact vals_refs2 t2, by
        rw [Array.toArray_toList]; exact a2⟩
      have sm2 : Same H1 (upd (updAll H1 ts) h1.objs.size (.lst (ts.map fun t => V.ref t.1))) := sm.trans (same_upd hS1)
      have J : Inv X pins σ (upd (updAll H1 ts) h1.objs.size (.lst (ts.map fun t => V.ref t.1))) { s1 with heap := h' } := I1.un (t' := s1.toks) (un_ext kall sm2 fun a n1 n2 => by
        by_cases e1 : a = h1.objs.size
        · rw [e1, hsz]; omega
        · rw [upd_ne e1] at n2
          by_cases e2 : a ∈ ts.map (·.1)
          · rw [t2] at e2
            obtain ⟨t, ht, e⟩ := List.mem_map.mp e2
            rw [← e]
            exact (a6 t ht).1
          · rw [updAll_ne ts H1 e2] at n2
            exact absurd n1 n2) ok2
      exact ⟨.ref h1.objs.size, _, J, rfl, q ts _ t1 nd hSn fr hSf⟩
end
end DL
end
section
set_option Elab.async false
set_option linter.all false
set_option maxRecDepth 100000
/-! DL10: defs by name. -/
namespace DL
open PySem PySem.Spec L2
open PyProof.Rows hiding St
variable [Tb0]

/-- the def that the module's name x stands for, by values -/
structure OkF (P : Program) (w : World) (K : PySem.W.Frag) (mg : Str → Option Value) (base : Heap) (k : Nat) (x : Str) (ps : List Str) (c : Con) : Prop where
  ex : ∃ fd, FnOk P w K mg base (L2.CX P w) k (He.ga K x) fd ps (spC K ps.length c) ∧ Binds K fd ps [] ∧ ∃ (oc : Value) (od : Option Addr) (osl : Array (Option Value)), K.lookup (He.ga K x) = some ⟨oc, od, .func fd, osl⟩
  gm : mg x = some (.ref (He.ga K x))
  kp : PySem.W.keepIn K (.ref (He.ga K x)) = true
theorem OkF.mono {P : Program} {w : World} {K : PySem.W.Frag} {mg : Str → Option Value} {base : Heap} {j k : Nat} {x : Str} {ps : List Str} {c : Con} (h : OkF P w K mg base j x ps c) (hk : j ≤ k) : OkF P w K mg base k x ps c :=
  let ⟨fd, F, b, l⟩ := h.ex; ⟨⟨fd, F.mono hk, b, l⟩, h.gm, h.kp⟩
section
variable {X : Cx} {Wx : WX} {e : Expr} {es : List Expr} {pos p : Pos} {x : Str} {n k : Nat} {c : Con} {ps : List Str}
theorem je_callN {f : M (List Hd)} (ms : List Bool) (G : OkF X.prog X.w X.K X.mg X.base k x ps c) (hr : Room k X.A) (tk : Takes X Wx) (ha : JA X Wx (e :: es) f) (hl : lenA ps.length f) (hg : Gl X x := by rfl) (hdb : (x == ("__debug__" : Str)) = false := by decide) (he : starEach (e :: es) X.env = (false, eval e X.env) :: starEach es X.env := by rfl) (hpl : (backTo pos (starEach es X.env)).any (·.1) = false := by rfl) :
    JE X Wx (.Call (.Name x p) (e :: es) [] pos) (dCall ms c f) := by
  obtain ⟨⟨fd, F, b, _⟩, gm, kp⟩ := G
  exact je_call ms F hr hg gm kp b tk ha hl hdb he hpl
theorem jo_callN {f : M (List Hd)} (ms : List Bool) (G : OkF X.prog X.w X.K X.mg X.base k x ps c) (hr : Room k X.A) (tk : Takes X Wx) (ha : JA X Wx (e :: es) f) (hl : lenA ps.length f) (hg : Gl X x := by rfl) (hdb : (x == ("__debug__" : Str)) = false := by decide) (he : starEach (e :: es) X.env = (false, eval e X.env) :: starEach es X.env := by rfl) (hpl : (backTo pos (starEach es X.env)).any (·.1) = false := by rfl) :
    JO X Wx (.Call (.Name x p) (e :: es) [] pos) (dCallOwn ms c f) := by
  obtain ⟨⟨fd, F, b, _⟩, gm, kp⟩ := G
  exact jo_call ms F hr hg gm kp b tk ha hl hdb he hpl
theorem je_gint {i : Int} (h : ∃ t, X.mg x = some (.int i t)) (hg : Gl X x := by rfl) (hd : (x == ("__debug__" : Str)) = false := by decide) : JE X Wx (.Name x pos) (dK (.int i)) := by
  obtain ⟨t, h⟩ := h
  exact je_glob (v := .int i) hg h ⟨t, rfl⟩ (fun _ => .int i) hd
def DatOf (K : PySem.W.Frag) (mg : Str → Option Value) (x : Str) (d : D) : Prop := ∃ u v, mg x = some u ∧ RelV v u ∧ ∀ F, Dq K F v d
theorem je_gdat {d : D} (h : DatOf X.K X.mg x d) (hg : Gl X x := by rfl) (hd : (x == ("__debug__" : Str)) = false := by decide) : JE X Wx (.Name x pos) (dK d) := by
  obtain ⟨u, v, h1, h2, h3⟩ := h
  exact je_glob hg h1 h2 h3 hd
end
section
variable {P : Program} {w : World} {K : PySem.W.Frag} {mg : Str → Option Value} {base : Heap}
theorem mkOk {x : Str} {params : Arguments} {body : List Stmt} {scope : Scope} {N ps : List Str} {k : Nat} {g : MS} {c : Con} (hf : ∃ fd, FunD K x x params body scope [] [] (He.ga K x) fd) (gm : mg x = some (.ref (He.ga K x))) (S : FnScope N ps scope)
    (hb : ∀ (kV doc pm : Value) (an : Option Addr) (cdv ct : Value) (us : List Value), us.length = ps.length → bindArgs (PySem.W.fnOf x x params body scope .none kV doc pm an cdv ct) ⟨us, []⟩ = pure (ps.zip us))
    (hbody : ∀ (cdv : Value) (A : Around) (outer : List Env) (s : Shared) (H : Hp) (E : XK), Room k (A.deeper (envOfC x scope s.heap.objs.size (He.ga K x) cdv)) →
      JSs (cxOf (L2.CX P w) P w K mg base N x scope (He.ga K x) cdv A outer s H E) (fun cls d _ H => E cls d H) body g) (hc : c = conOf ps.length N.length g) : OkF P w K mg base (k + 1) x ps c := by
  obtain ⟨fd, F⟩ := hf
  rw [hc]
  obtain ⟨oc, od, dV, kV, doc, pm, an, cdv, ct, osl, e, lk, _⟩ := F.ex
  exact ⟨⟨fd, fn_d F S hbody, F.bindsN hb, oc, od, osl, lk⟩, gm, F.kp⟩
theorem OkF.at {x : Str} {params : Arguments} {body : List Stmt} {scope : Scope} {ps : List Str} {k : Nat} {c : Con} {fd : FuncData} (h : OkF P w K mg base k x ps c) (F : FunD K x x params body scope [] [] (He.ga K x) fd) : FnOk P w K mg base (L2.CX P w) k (He.ga K x) fd ps (spC K ps.length c) := by
  obtain ⟨fd1, G, b, oc, od, osl, l1⟩ := h.ex
  obtain ⟨oc', od', dV, kV, doc, pm, an, cdv, ct, osl', e, lk, _⟩ := F.ex
  rw [l1] at lk
  cases lk
  exact G
end
def NoEr (h : D → M Unit) : Prop := ∀ d ρ x ρ', h d ρ ≠ some (.error x, ρ')
def NoErs (h : List D → M Unit) : Prop := ∀ d ρ x ρ', h d ρ ≠ some (.error x, ρ')
theorem noEr_N (i : Nat) : NoEr (tgN i) := fun d ρ x ρ' e => by cases e
theorem noErs_nil : NoErs tgNil := fun d ρ x ρ' e => by
  cases d with
  | nil => cases e
  | cons _ _ => cases e
theorem noErs_cons {h : D → M Unit} {g : List D → M Unit} (a : NoEr h) (b : NoErs g) : NoErs (tgCons h g) := fun d ρ x ρ' e => by
  cases d with
  | nil => cases e
  | cons d ds =>
    have e : bnd (h d) (fun _ => g ds) ρ = some (.error x, ρ') := e
    unfold bnd at e
    cases q : h d ρ with
    | none => rw [q] at e; cases e
    | some z =>
      obtain ⟨r, ρ1⟩ := z
      rw [q] at e
      cases r with
      | error y => exact a _ _ _ _ q
      | ok u => exact b _ _ _ _ e
theorem noEr_T {n : Nat} {g : List D → M Unit} (b : NoErs g) : NoEr (tgT n g) := fun d ρ x ρ' e => by
  cases d with
  | tup ds =>
    unfold tgT at e
    dsimp only at e
    by_cases z : ds.length = n
    · rw [if_pos z] at e; exact b _ _ _ _ e
    · rw [if_neg z] at e; cases e
  | _ => cases e
theorem kitT_int : KitT "int" := by unfold KitT; decide +kernel
theorem kitT_bool : KitT "bool" := by unfold KitT; decide +kernel
theorem kitT_str : KitT "str" := by unfold KitT; decide +kernel
theorem kitT_tuple : KitT "tuple" := by unfold KitT; decide +kernel
theorem kitT_list : KitT "list" := by unfold KitT; decide +kernel
theorem updAll_get : ∀ (ts : List (Addr × V × V)) (H : Hp), (ts.map (·.1)).Nodup → ∀ t ∈ ts, updAll H ts t.1 = some (.tup [t.2.1, t.2.2])
  | [], _, _, t, ht => nomatch ht
  | t0 :: ts, H, nd, t, ht => by
    rw [List.map_cons, List.nodup_cons] at nd
    show updAll (upd H t0.1 _) ts t.1 = _
    rcases List.mem_cons.mp ht with q | q
    · rw [q, updAll_ne ts _ nd.1, upd_same]
    · exact updAll_get ts _ nd.2 t q
theorem alloc_all : ∀ (ts : List (Addr × V × V)) (F H : Hp), Same F H → (∀ t ∈ ts, H t.1 = none) → (ts.map (·.1)).Nodup → Alloc F H (updAll F ts) (updAll H ts)
  | [], _, _, e, _, _ => Alloc.refl e
  | t :: ts, F, H, e, h, nd => by
    rw [List.map_cons, List.nodup_cons] at nd
    have a := Alloc.new e (h t List.mem_cons_self) (.tup [t.2.1, t.2.2])
    refine a.trans (alloc_all ts _ _ a.fh (fun t' ht' => ?_) nd.2)
    have : t'.1 ≠ t.1 := fun e => nd.1 (by rw [← e]; exact List.mem_map.mpr ⟨t', ht', rfl⟩)
    rw [upd_ne this]
    exact h t' (List.mem_cons_of_mem _ ht')
theorem dqa_ts {K : PySem.W.Frag} {F F' : Hp} (sm : Same F F') : ∀ (ts : List (Addr × V × V)) {xs ys : List V} {ds es : List D}, ts.map (·.2) = xs.zip ys → DqA K F xs ds → DqA K F ys es → (∀ t ∈ ts, F' t.1 = some (.tup [t.2.1, t.2.2])) →
    DqA K F' (ts.map fun t => V.ref t.1) (zpD ds es)
  | ts, [], _, _, _, e, .nil, _, _ => by
    rw [List.zip_nil_left] at e
    have e2 : ts = [] := List.map_eq_nil_iff.mp e
    subst e2
    exact .nil
  | ts, _ :: _, [], _ :: _, _, e, _, .nil, _ => by
    rw [List.zip_nil_right] at e
    have e2 : ts = [] := List.map_eq_nil_iff.mp e
    subst e2
    exact .nil
  | ts, x :: xs, y :: ys, d :: ds, k :: es, e, .cons r1 a, .cons r2 b, h => by
    cases ts with
    | nil => simp at e
    | cons t ts =>
      rw [List.zip_cons_cons, List.map_cons] at e
      injection e with e1 e2
      obtain ⟨p, uv⟩ := t
      have e1 : uv = (x, y) := e1
      subst e1
      refine .cons (.tup (.inl (.inl (h _ List.mem_cons_self))) (.cons (r1.m sm) (.cons (r2.m sm) .nil))) (dqa_ts sm ts e2 a b fun t ht => h t (List.mem_cons_of_mem _ ht))
/-- the ints, each once, in order -/
def insI (x : Int) : List Int → List Int
  | [] => [x]
  | y :: l => if x < y then x :: y :: l else if x = y then y :: l else y :: insI x l
def sortI : List Int → List Int
  | [] => []
  | x :: l => insI x (sortI l)
theorem mem_insI {x y : Int} : ∀ {l : List Int}, y ∈ insI x l ↔ y = x ∨ y ∈ l
  | [] => by simp [insI]
  | z :: l => by
    unfold insI
    by_cases h : x < z
    · rw [if_pos h]; simp
    · rw [if_neg h]
      by_cases e : x = z
      · rw [if_pos e, e]; simp
      · rw [if_neg e, List.mem_cons, mem_insI, List.mem_cons]
        constructor
        · rintro (h | h | h) <;> simp [h]
        · rintro (h | h | h) <;> simp [h]
theorem insI_pw {x : Int} : ∀ {l : List Int}, l.Pairwise (· < ·) → (insI x l).Pairwise (· < ·)
  | [], _ => by simp [insI]
  | z :: l, h => by
    obtain ⟨h1, h2⟩ := List.pairwise_cons.mp h
    unfold insI
    by_cases c : x < z
    · rw [if_pos c]
      refine List.pairwise_cons.mpr ⟨fun y hy => ?_, h⟩
      rcases List.mem_cons.mp hy with q | q
      · rw [q]; exact c
      · exact Int.lt_trans c (h1 y q)
    · rw [if_neg c]
      by_cases e : x = z
      · rw [if_pos e]; exact h
      · rw [if_neg e]
        refine List.pairwise_cons.mpr ⟨fun y hy => ?_, insI_pw h2⟩
        rcases mem_insI.mp hy with q | q
        · rw [q]; omega
        · exact h1 y q
theorem mem_sortI {y : Int} : ∀ {l : List Int}, y ∈ sortI l ↔ y ∈ l
  | [] => Iff.rfl
  | x :: l => by
    show y ∈ insI x (sortI l) ↔ _
    rw [mem_insI, mem_sortI, List.mem_cons]
theorem sortI_pw : ∀ (l : List Int), (sortI l).Pairwise (· < ·)
  | [] => List.Pairwise.nil
  | x :: l => insI_pw (sortI_pw l)
theorem pw_ext : ∀ {l m : List Int}, l.Pairwise (· < ·) → m.Pairwise (· < ·) → (∀ x, x ∈ l ↔ x ∈ m) → l = m
  | [], [], _, _, _ => rfl
  | [], y :: m, _, _, h => absurd ((h y).mpr List.mem_cons_self) List.not_mem_nil
  | x :: l, [], _, _, h => absurd ((h x).mp List.mem_cons_self) List.not_mem_nil
  | x :: l, y :: m, hl, hm, h => by
    obtain ⟨l1, l2⟩ := List.pairwise_cons.mp hl
    obtain ⟨m1, m2⟩ := List.pairwise_cons.mp hm
    have e : x = y := by
      rcases List.mem_cons.mp ((h x).mp List.mem_cons_self) with q | q
      · exact q
      · rcases List.mem_cons.mp ((h y).mpr List.mem_cons_self) with q' | q'
        · exact q'.symm
        · have a := m1 x q
          have b := l1 y q'
          omega
    subst e
    rw [pw_ext l2 m2 fun z => ⟨fun hz => ?_, fun hz => ?_⟩]
    · rcases List.mem_cons.mp ((h z).mp (List.mem_cons_of_mem _ hz)) with q | q
      · have := l1 z hz; omega
      · exact q
    · rcases List.mem_cons.mp ((h z).mpr (List.mem_cons_of_mem _ hz)) with q | q
      · have := m1 z hz; omega
      · exact q
section
variable {X : Cx} {Wx : WX} {e a b c tg : Expr} {es : List Expr} {pos p p2 p3 : Pos}
/-- list(zip(a, b)) of two tuples -/
def dZipT (f g : M Hd) : M (List D) := bnd f fun h => bnd g fun k => bnd (res h) fun x => bnd (res k) fun y => bnd (lft (tupD x)) fun xs => bnd (lft (tupD y)) fun ys => pur (zpD xs ys)
theorem jo_zipT {f g : M Hd} (hc : X.calm = true) (hg1 : Gl X "list") (hm1 : X.mg "list" = none) (hg2 : Gl X "zip") (hm2 : X.mg "zip" = none) (ha : JE X Wx a f) (hb : JE X Wx b g)
    (hs : starEach [a, b] X.env = (false, eval a X.env) :: starEach [b] X.env := by rfl) (hs2 : starEach [b] X.env = (false, eval b X.env) :: starEach [] X.env := by rfl) (hp : ∀ q, (backTo q (starEach [b] X.env)).any (·.1) = false := by intro _; rfl)
    (na : starEach [.Call (.Name "zip" p2) [a, b] [] p3] X.env = (false, eval (.Call (.Name "zip" p2) [a, b] [] p3) X.env) :: starEach [] X.env := by rfl) :
    JO X Wx (.Call (.Name "list" p) [.Call (.Name "zip" p2) [a, b] [] p3] [] pos) (dZipT f g) :=
  PE.imp (pe_listZip hc hg1 hm1 hg2 hm2 (pa_cons ha (pa_cons hb pa_nil hs2) hs) hs (hp _) na) fun σ H Q ⟨W, F, ρ, S, R⟩ => by
  refine ⟨W, F, ρ, S, R.bind.imp fun ρ1 h F1 H1 S1 s1 R1 v hv => ⟨W, F1, ρ1, S1, R1.bind.imp fun ρ2 k F2 H2 S2 s2 R2 u hu => ?_⟩⟩
  obtain ⟨x, q1, R3⟩ := R2.res S2 (hv.sm s2)
  obtain ⟨y, q2, R4⟩ := R3.res S2 hu
  obtain ⟨xs, e1, R5⟩ := R4.lft
  obtain ⟨ys, e2, R6⟩ := R5.lft
  cases x with
  | tup ds =>
    cases e1
    cases y with
    | tup es =>
      cases e2
      rcases q1 with q1 | ⟨_, _, _, _, z, _⟩
      · rcases q2 with q2 | ⟨_, _, _, _, z, _⟩
        · cases q1 with
          | tup t1 d1 => cases q2 with
            | tup t2 d2 =>
              refine ⟨_, _, _, _, rfl, S2.fh.seqT t1, S2.fh.seqT t2, fun ts A h1 h2 h3 h4 h5 => ?_⟩
              have al := alloc_all ts _ _ S2.fh h4 h2
              have hA : updAll H2 ts A = none := by rw [updAll_ne ts _ h3]; exact h5
              have al2 := al.trans (Alloc.newO al.fh hA (.lst (ts.map fun t => V.ref t.1)))
              obtain ⟨f1, f2, f3⟩ := S2.fresh h5
              exact R6.pur (S2.alloc al2) al2.ff A ⟨⟨_, upd_same, dqa_ts al2.ff ts h1 d1 d2 fun t ht => updAll_get ts _ h2 t ht⟩, by rw [updAll_ne ts _ h3]; exact f3, f1⟩ (S2.lone h5)
        · cases z
      · cases z
    | _ => cases e2
  | _ => cases e1
@[simp] def size4 (ns : List Int) : Option Unit := if ns.length ≤ 4000 then some () else none
/-- sorted(set(e)) of a list or tuple of ints -/
def dSortSet (f : M Hd) : M (List D) := bnd f fun h => bnd (res h) fun x => bnd (lft (seqD x)) fun xs => bnd (lft (asInts xs)) fun ns => bnd (lft (size4 ns)) fun _ => pur ((sortI ns).map D.int)
theorem seq_ints {K : PySem.W.Frag} {F H : Hp} {v : V} {x : D} {xs : List D} {ns : List Int} (sm : Same F H) (q : Rq K F H v x) (e : seqD x = some xs) (e2 : asInts xs = some ns) : ∃ l, v = .ref l ∧ (SqT K H l (ns.map V.int) ∨ SqL K H l (ns.map V.int)) := by
  have ex := asInts_eq e2
  subst ex
  cases x with
  | tup ds =>
    cases e
    rcases q with q | ⟨_, _, _, _, z, _⟩
    · cases q with
      | tup t d => rw [d.ints] at t; exact ⟨_, rfl, .inl (sm.seqT t)⟩
    · cases z
  | lst ds =>
    cases e
    rcases q with q | ⟨l, vs, ds', rfl, z, h, d⟩
    · cases q with
      | lst t d => rw [d.ints] at t; exact ⟨_, rfl, .inr (SqL.of (sm _ _ t))⟩
    · cases z
      rw [d.ints] at h
      exact ⟨_, rfl, .inr (SqL.of h)⟩
  | _ => cases e
theorem jo_sortset {f : M Hd} (hc : X.calm = true) (hg1 : Gl X "sorted") (hm1 : X.mg "sorted" = none) (hg2 : Gl X "set") (hm2 : X.mg "set" = none) (ha : JE X Wx a f)
    (hs : starEach [a] X.env = (false, eval a X.env) :: starEach [] X.env := by rfl)
    (na : starEach [.Call (.Name "set" p2) [a] [] p3] X.env = (false, eval (.Call (.Name "set" p2) [a] [] p3) X.env) :: starEach [] X.env := by rfl) :
    JO X Wx (.Call (.Name "sorted" p) [.Call (.Name "set" p2) [a] [] p3] [] pos) (dSortSet f) :=
  PE.imp (pe_callB (cr_sortedSetB hc) hg1 hm1 PyProof.Rows.boot_sorted (pa_cons (pe_callTy (cr_setOf hc) hg2 hm2 PyProof.Rows.boot_set (pa_cons ha pa_nil hs) (he := hs) (hpl := rfl)) pa_nil na) (he := na) (hpl := rfl)) fun σ H Q ⟨W, F, ρ, S, R⟩ => by
  refine ⟨W, F, ρ, S, R.bind.imp fun ρ1 h F1 H1 S1 s1 R1 v hv => ?_⟩
  obtain ⟨x, q1, R2⟩ := R1.res S1 hv
  obtain ⟨xs, e1, R3⟩ := R2.lft
  obtain ⟨ns, e2, R4⟩ := R3.lft
  obtain ⟨l, rfl, hl⟩ := seq_ints S1.fh q1 e1 e2
  obtain ⟨u, e5, R5⟩ := R4.lft
  unfold size4 at e5
  by_cases hz : ns.length ≤ 4000
  · refine ⟨l, ns, rfl, hl, hz, fun A n hn hA => ⟨A, _, n, rfl, upd_same, by omega, fun ms B hs hm hlen hB => ?_⟩⟩
    have e3 : ms = sortI ns := pw_ext hs (sortI_pw ns) fun k => by rw [hm k, decide_eq_true_eq, mem_sortI]
    subst e3
    have al := Alloc.newO S1.fh hA (SetO X.w A (fun j => decide (j ∈ ns)) n)
    have al2 := al.trans (Alloc.newO al.fh hB (.lst ((sortI ns).map V.int)))
    have hB1 : H1 B = none := none_of_same al.hh hB
    obtain ⟨f1, f2, f3⟩ := S1.fresh hB1
    exact R5.pur (S1.alloc al2) al2.ff B ⟨⟨_, upd_same, DqA.ofInts _⟩, f3, f1⟩ (S1.lone hB1)
  · rw [if_neg hz] at e5
    cases e5
/-- t[::-1] of a tuple -/
def dRevT (f : M Hd) : M Hd := bnd f fun h => bnd (res h) fun x => bnd (lft (tupD x)) fun xs => pur (.d (.tup xs.reverse))
theorem je_revT {f : M Hd} {k : Nat} {q1 q2 q3 : Pos} (ha : JE X Wx a f) : JE X Wx (.Subscript a (.Slice none none (some (.UnaryOp .USub (.Constant (.int 1) k q1) q2)) q3) pos) (dRevT f) :=
  PE.imp (pe_revT ha) fun σ H Q ⟨W, F, ρ, S, R⟩ => by
  refine ⟨W, F, ρ, S, R.bind.imp fun ρ1 h F1 H1 S1 s1 R1 v hv => ?_⟩
  obtain ⟨x, q1, R2⟩ := R1.res S1 hv
  obtain ⟨xs, e1, R3⟩ := R2.lft
  cases x with
  | tup ds =>
    cases e1
    rcases q1 with q1 | ⟨_, _, _, _, z, _⟩
    · cases q1 with
      | @tup _ vs _ t d =>
        refine ⟨_, _, rfl, S1.fh.seqT t, fun A hA => ?_⟩
        have al := Alloc.new S1.fh hA (.tup vs.reverse)
        exact R3.pur (S1.alloc al) al.ff _ (.tup (.inl (.inl upd_same)) (d.rev.m al.ff))
    · cases z
  | _ => cases e1
end
end DL
end
section
set_option Elab.async false
set_option linter.all false
set_option maxRecDepth 100000
/-! DLC: a def as a value; a call of what a slot names. -/
namespace DL
open PySem PySem.Spec L2
open PyProof.Rows hiding St
variable [Tb0]
/-- defs that a slot may name -/
abbrev Tb := List (Str × Con)
def tbGet (x : Str) : Tb → Option Con
  | [] => none
  | yc :: t => if x = yc.1 then some yc.2 else tbGet x t
def TbOk (P : Program) (w : World) (K : PySem.W.Frag) (mg : Str → Option Value) (base : Heap) (k n : Nat) (tb : Tb) : Prop := ∀ x c, tbGet x tb = some c → ∃ ps : List Str, ps.length = n ∧ OkF P w K mg base k x ps c
section
variable {P : Program} {w : World} {K : PySem.W.Frag} {mg : Str → Option Value} {base : Heap} {k j n : Nat}
theorem tb_nil : TbOk P w K mg base k n [] := fun x c e => by cases e
theorem tb_cons {x : Str} {c : Con} {ps : List Str} {tb : Tb} (G : OkF P w K mg base j x ps c) (h : j ≤ k) (hl : ps.length = n) (t : TbOk P w K mg base k n tb) : TbOk P w K mg base k n ((x, c) :: tb) := fun y d e => by
  unfold tbGet at e
  by_cases z : y = x
  · rw [if_pos z] at e
    cases e
    subst z
    exact ⟨ps, hl, G.mono h⟩
  · rw [if_neg z] at e
    exact t y d e
end
/-- what the slot i names, called -/
def dCallV (i : Nat) (ms : List Bool) (tb : Tb) (f : M (List Hd)) : M Hd := fun ρ => match ρ[i]? with
  | some (.d (.glo x)) => (match tbGet x tb with
    | some c => dCall ms c f ρ
    | none => none)
  | _ => none
section
variable {X : Cx} {Wx : WX} {e : Expr} {es : List Expr} {pos p : Pos} {x : Str} {n k i : Nat} {c : Con} {ps : List Str}
theorem je_gfun (G : OkF X.prog X.w X.K X.mg X.base k x ps c) (hg : Gl X x := by rfl) (hd : (x == ("__debug__" : Str)) = false := by decide) : JE X Wx (.Name x pos) (dK (.glo x)) :=
  je_glob (v := .ref (He.ga X.K x)) hg G.gm rfl (fun _ => .glo x) hd
theorem je_callV {f : M (List Hd)} {tb : Tb} (i : Nat) (ms : List Bool) (G : TbOk X.prog X.w X.K X.mg X.base k n tb) (hr : Room k X.A) (tk : Takes X Wx) (ha : JA X Wx (e :: es) f) (hl : lenA n f) (hN : X.N[i]? = some x := by rfl) (hv : Vis X.env.scope x := by first | exact Or.inl rfl | exact Or.inr (Or.inl rfl) | exact Or.inr (Or.inr rfl))
    (hdb : (x == ("__debug__" : Str)) = false := by decide) (hcd : (x == ("__classdict__" : Str)) = false := by decide) (he : starEach (e :: es) X.env = (false, eval e X.env) :: starEach es X.env := by rfl) (hpl : (backTo pos (starEach es X.env)).any (·.1) = false := by rfl) :
    JE X Wx (.Call (.Name x p) (e :: es) [] pos) (dCallV i ms tb f) := ⟨fun pins s σ H Q I hq => by
  obtain ⟨W, F, ρ, S, r, ρ', er, q⟩ := hq
  unfold dCallV at er
  cases hi : ρ[i]? with
  | none => rw [hi] at er; cases er
  | some sl =>
    rw [hi] at er
    cases sl with
    | no => cases er
    | o b xs => cases er
    | d y =>
      cases y with
      | glo y =>
        dsimp only at er
        cases ht : tbGet y tb with
        | none => rw [ht] at er; cases er
        | some c =>
          rw [ht] at er
          obtain ⟨ps, hps, ⟨fd, Fn, bi, _⟩, gm, kp⟩ := G y c ht
          obtain ⟨u, hu, du⟩ := S.data hi
          cases du
          have R : RunAt X.K Wx (dCall ms c f) W ρ σ F fun _ h F' H' => ∀ v, HdOk X.K F' σ h v → Q v H' := ⟨r, ρ', er, q⟩
          have ta : tA X.K Wx f σ H fun vs H1 => spC X.K n c vs H1 Q (WE Wx σ) := ⟨W, F, ρ, S, tE_callF S R.bind (fun hs ρ' e => hl _ _ _ e) (fun ρ' y F' H' S' R' v q => by
              obtain ⟨z, ez, R2⟩ := RunAt.lft0 R'
              cases ez
              exact R2.pur S' (Same.refl _) v q) fun ρ' xs F' H' S' R' a q l => by
              obtain ⟨z, ez, R2⟩ := RunAt.lft0 R'
              cases ez⟩
          have name := (pe_var (pos := p) (i := i) hN hv hdb hcd).run pins s σ H (fun v H1 => H1 = H ∧ v = V.ref (He.ga X.K y)) I ⟨_, hu, rfl, rfl⟩
          refine wpAny_Call_Name_kw (thn name fun w s1 ⟨v, H1, I1, rv, eH, ev⟩ => ?_)
          subst eH ev
          cases rv
          have args := ha.run pos pins s1 σ _ _ I1 ta
          exact PySem.W.callWith_K (h₀ := X.base) I.ok.mod.kin kp (thn args fun us s2 ⟨vs, H2, I2, rs, sp⟩ => ⟨I2.kIn, run_fnS (by rw [← hps] at sp; exact Fn) hr bi (passAt tk σ) I2 rs (by rw [hps]; exact sp)⟩) he hpl
      | _ => cases er⟩
end
end DL
end
section
set_option Elab.async false
set_option linter.all false
set_option maxRecDepth 100000
/-! DL11: a module's constant told by the head. -/
namespace DL
open PySem PySem.Spec L2
open PyProof.Rows hiding St
variable [Tb0]
mutual
def datB (K : PySem.W.Frag) : D → Value → Bool
  | .non, .none => true
  | .bl b, .bool c => b == c
  | .int i, .int j _ => decide (i = j)
  | .str x, .str y _ => decide (x = y)
  | .tup ds, .ref a => (match K.lookup a with
    | some ⟨.type c, _, .seq its _, _⟩ => decide (c = "tuple") && (decide (its.size ≤ sizeLine) && datBs K ds its.toList)
    | _ => false)
  | _, _ => false
def datBs (K : PySem.W.Frag) : List D → List Value → Bool
  | [], [] => true
  | d :: ds, u :: us => datB K d u && datBs K ds us
  | _, _ => false
end
mutual
theorem datB_ok {K : PySem.W.Frag} : ∀ (d : D) (u : Value), datB K d u = true → ∃ v, RelV v u ∧ ∀ F, Dq K F v d
  | .non, u, h => by
    cases u with
    | none => exact ⟨.non, rfl, fun _ => .non⟩
    | _ => cases h
  | .bl b, u, h => by
    cases u with
    | bool c =>
      have h1 : (b == c) = true := h
      rw [← eq_of_beq h1]
      exact ⟨.bl b, rfl, fun _ => .bl b⟩
    | _ => cases h
  | .int i, u, h => by
    cases u with
    | int c t =>
      have h1 : decide (i = c) = true := h
      rw [← of_decide_eq_true h1]
      exact ⟨.int i, ⟨t, rfl⟩, fun _ => .int i⟩
    | _ => cases h
  | .str i, u, h => by
    cases u with
    | str c t =>
      have h1 : decide (i = c) = true := h
      rw [← of_decide_eq_true h1]
      exact ⟨.str i, ⟨t, rfl⟩, fun _ => .str i⟩
    | _ => cases h
  | .tup ds, u, h => by
    cases u with
    | ref a =>
      have h : (match K.lookup a with
        | some ⟨.type c, _, .seq its _, _⟩ => decide (c = "tuple") && (decide (its.size ≤ sizeLine) && datBs K ds its.toList)
        | _ => false) = true := h
      cases q : K.lookup a with
      | none =>
        rw [q] at h
        cases h
      | some o =>
        obtain ⟨oc, od, dt, osl⟩ := o
        rw [q] at h
        cases oc with
        | type c =>
          cases dt with
          | seq its n =>
            obtain ⟨h1, h2⟩ := He.ba (show (decide (c = "tuple") && (decide (its.size ≤ sizeLine) && datBs K ds its.toList)) = true from h)
            obtain ⟨h3, h4⟩ := He.ba h2
            obtain ⟨vs, g1, g2⟩ := datBs_ok ds its.toList h4
            exact ⟨.ref a, rfl, fun F => .tup (.inr ⟨_, its, n, q, congrArg Value.type (of_decide_eq_true h1), rfl, of_decide_eq_true h3, g1⟩) (g2 F)⟩
          | _ => cases h
        | _ => cases dt <;> cases h
    | _ => cases h
  | .lst ds, u, h => by cases u <;> cases h
  | .glo x, u, h => by cases u <;> cases h
  | .scr ns, u, h => by cases u <;> cases h
  | .emp, u, h => by cases u <;> cases h
theorem datBs_ok {K : PySem.W.Frag} : ∀ (ds : List D) (us : List Value), datBs K ds us = true → ∃ vs, Vals vs us ∧ ∀ F, DqA K F vs ds
  | [], [], _ => ⟨[], .nil, fun _ => .nil⟩
  | [], _ :: _, h => by cases h
  | _ :: _, [], h => by cases h
  | d :: ds, u :: us, h => by
    obtain ⟨h1, h2⟩ := He.ba (show (datB K d u && datBs K ds us) = true from h)
    obtain ⟨v, a1, a2⟩ := datB_ok d u h1
    obtain ⟨vs, b1, b2⟩ := datBs_ok ds us h2
    exact ⟨v :: vs, .cons a1 b1, fun F => .cons (a2 F) (b2 F)⟩
end
def datG (K : PySem.W.Frag) (x : Str) (d : D) : Bool := match PySem.W.nsIn K mainGlobals x with
  | some (some u) => datB K d u
  | _ => false
theorem datG_ok {K : PySem.W.Frag} {h : Heap} {mg : Str → Option Value} (X : K.In h) (G : h.Ns mainGlobals mg) {x : Str} {d : D} (c : datG K x d = true) : DatOf K mg x d := by
  unfold datG at c
  cases e : PySem.W.nsIn K mainGlobals x with
  | none => rw [e] at c; cases c
  | some o =>
    rw [e] at c
    cases o with
    | none => cases c
    | some u =>
      obtain ⟨v, h1, h2⟩ := datB_ok d u c
      exact ⟨u, v, PySem.W.mg_of X G e, h1, h2⟩
/-- the walk's end, what may be let out told by the world -/
theorem walk_ofX {l : PySem.W.OpenLaw} {n k : Nat} {q : Program} {loose : List Str} {XP : (Str → Option Value) → Heap → Prop} {YP : World → Heap → Prop} {d : DefRec} {x : Str}
    (hn : l.most = some n) (hn2 : n ≤ sizeLine) (hdf : d.params.defaults = []) (hr : Room k callerA)
    (F : ∀ (w : World) (mg : Str → Option Value) (fa : Addr) (h : Heap), YP w h → h.Ns mainGlobals mg → mg d.name = some (.ref fa) →
      ∃ (K : PySem.W.Frag) (fd : FuncData) (sp : Sp), K.In h ∧ (∀ (s : Shared) (u : Value), BindsTo s fd ⟨[u], []⟩ [(x, u)]) ∧
        (∀ (H : Hp) (a : Addr) (ns : List Int), ns.length ≤ n → Only H → SqL K H a (ns.map V.int) → sp [.ref a] H (fun v _ => v = .bl true) fun _ _ _ => False) ∧
        ∀ base : Heap, K.In base → base.Ns mainGlobals mg → FnOk l.prog w K mg base (L2.CX l.prog w) k fa fd [x] sp) :
    PySem.W.WalkO q loose XP YP l.row.toRowW d [] (fun f vs => PySem.call f vs) := by
  refine Att.attach_call hn hdf fun w s₀ s₁ mg mb fa o pm cd doc a vs ns G Y ho hd hcd hmg hobj hints hlen hg => ?_
  obtain ⟨K, fd, sp, KX, hb, hsp, hF⟩ := F w mg fa _ Y G.T.g hmg
  refine law_call KX G.T.g G.T.b G.T.builtins G.T.nolimit hg hobj hints (Nat.le_trans hlen hn2) hr hF hb (fun H hO hS => hsp H a ns hlen hO hS) fun H e s' h => ?_
  obtain ⟨_, _, _, _, _, _, _, _, _, _, _, _, h⟩ := h
  exact h
/-- the law's call: what the walk's end asks of the promise -/
theorem law_sp {K : PySem.W.Frag} {c : Con} (h0 : Tb0.T K = []) (hc : ∀ ns : List Int, ns.length ≤ 63 → c [.d (.scr ns)] = some (.ok (.d (.bl true)), [])) :
    ∀ (H : Hp) (a : Addr) (ns : List Int), ns.length ≤ 63 → Only H → SqL K H a (ns.map V.int) → spC K 1 c [.ref a] H (fun v _ => v = .bl true) fun _ _ _ => False := by
  intro H a ns hl hO hS
  have tb : LamX.Tabs (Tb0.T K) H := by rw [h0]; exact fun _ z => nomatch z
  have nt : ∀ a ps, H a ≠ some (.tbl ps) := fun a ps z => by
    rcases hO a with y | ⟨_, _, y⟩ <;> rw [y] at z <;> cases z
  exact ⟨rfl, H, [.d (.scr ns)], ⟨Same.refl _, tb, nt⟩, .cons (.scr hS) .nil, List.nodup_nil, _, _, hc ns hl, fun F' H' _ v hv => by cases hv; rfl⟩
end DL
end
section
set_option Elab.async false
set_option linter.all false
set_option maxRecDepth 100000
set_option maxHeartbeats 2000000
/-! DLX: own exceptions by values: raised, caught. -/
namespace DL
open PySem PySem.Spec L2
open PyProof.Rows hiding St
variable [Tb0]

/-- an own exception class over the built-in B whose __init__ stores the field f -/
structure FlC (K : PySem.W.Frag) (C : Addr) (f : Str) (bm : List Value) (newId : String) : Prop where
  ei : PySem.W.excInitIn K C bm newId = true
  eo : PySem.W.excOver K C bm = true
  sa : PySem.W.findIn K (.ref C) "__setattr__" = some (some (.builtin "object.__setattr__"))
  nf : PySem.W.takerIn K C f = some none
  hd : PySem.W.hasDictIn K C = true
  ex : PySem.W.subIn K (.ref C) (.type "BaseException") = some true
  ty : PySem.W.typeIn K (.ref C) = some (.type "type")
  kp : PySem.W.keepIn K (.ref C) = true
  ic : PySem.W.findIn K (.ref C) "__init__" = some (some (.ref (He.ma K C "__init__")))
  it : PySem.W.typeIn K (.ref (He.ma K C "__init__")) = some (.type "function")
  no : PySem.W.findIn K (.ref C) f = some none
  xf : xfB K C = true
def flB (K : PySem.W.Frag) (C : Addr) (f : Str) (bm : List Value) (newId : String) : Bool :=
  PySem.W.excInitIn K C bm newId && (PySem.W.excOver K C bm && (decide (PySem.W.findIn K (.ref C) "__setattr__" = some (some (.builtin "object.__setattr__"))) && (decide (PySem.W.takerIn K C f = some none) && (PySem.W.hasDictIn K C &&
    (decide (PySem.W.subIn K (.ref C) (.type "BaseException") = some true) && (decide (PySem.W.typeIn K (.ref C) = some (.type "type")) && (PySem.W.keepIn K (.ref C) && (decide (PySem.W.findIn K (.ref C) "__init__" = some (some (.ref (He.ma K C "__init__")))) &&
      (decide (PySem.W.typeIn K (.ref (He.ma K C "__init__")) = some (.type "function")) && (decide (PySem.W.findIn K (.ref C) f = some none) && xfB K C))))))))))
theorem flB_ok {K : PySem.W.Frag} {C : Addr} {f : Str} {bm : List Value} {newId : String} (h : flB K C f bm newId = true) : FlC K C f bm newId := by
  unfold flB at h
  obtain ⟨h1, h⟩ := He.ba h
  obtain ⟨h2, h⟩ := He.ba h
  obtain ⟨h3, h⟩ := He.ba h
  obtain ⟨h4, h⟩ := He.ba h
  obtain ⟨h5, h⟩ := He.ba h
  obtain ⟨h6, h⟩ := He.ba h
  obtain ⟨h7, h⟩ := He.ba h
  obtain ⟨h8, h⟩ := He.ba h
  obtain ⟨h9, h⟩ := He.ba h
  obtain ⟨g1, h⟩ := He.ba h
  obtain ⟨g2, g3⟩ := He.ba h
  exact ⟨h1, h2, of_decide_eq_true h3, of_decide_eq_true h4, h5, of_decide_eq_true h6, of_decide_eq_true h7, h8, of_decide_eq_true h9, of_decide_eq_true g1, of_decide_eq_true g2, g3⟩
section
variable {X : Cx} {Wx : WX} {pins : List (Addr × Obj)} {σ : St} {H : Hp} {s : Shared} {a C : Addr} {f : Str} {B newId initId : String} {bm : List Value}
/-- self.f = y where self has no dict as yet -/
theorem fl_store {A : Around} {E : Value → Shared → Prop} {Q : Unit → Shared → Prop} {y : V} {u : Value} (T : FlC X.K C f bm newId) (SF : StoreFacts B bm "object.__setattr__" "object") (I : Inv X pins σ H s) (ea : H a = some (exo a C none)) (ry : RelV y u)
    (fin : ∀ dx s', H dx = none → dx ≠ a → Inv X pins σ (upd (upd H dx (exd dx [(f, y)])) a (exo a C (some dx))) s' → Q () s') : wpAny (model X.prog X.w) A (setAttr (.ref a) f u) Q E s := by
  obtain ⟨t1, ha⟩ := exo_at I.hok ea
  obtain ⟨hp, gg, dw, tt, os⟩ := s
  refine PySem.W.set_plain (od := none) I.kIn ⟨ha, rfl, rfl, trivial⟩ T.sa ?_
  refine PySem.W.osa_openX (od := none) SF I.kIn ⟨ha, rfl, rfl, trivial⟩ T.eo T.nf fun _ => ?_
  obtain ⟨cd, hc, hdc⟩ := PySem.W.any_some T.hd
  have sz : a < hp.objs.size := Heap.lt_size ha
  have dn : H hp.objs.size = none := I.hok.fresh (Nat.le_refl _)
  refine wpAny_bind (wpAny_pure (wpAny_bind (PySem.W.instanceDict_exc ha (PySem.W.looks_clsIn I.kIn hc) hdc ?_)))
  show wpAny _ _ (Builtin.ObjectAttr.storeInDict hp.objs.size _ _ _) _ _ _
  have ne : a ≠ hp.objs.size := Nat.ne_of_lt sz
  have mid : ∀ b o, b ≠ a → hp.get? b = some o → ((hp.push (PySem.W.dictOf [] 0)).update a fun o => { o with dict := some hp.objs.size }).get? b = some o := fun b o hb q => (Heap.get?_update_ne _ _ _ _ hb).trans (Heap.get?_push_of_some _ q)
  have mida : ((hp.push (PySem.W.dictOf [] 0)).update a fun o => { o with dict := some hp.objs.size }).get? a = some ({ cls := .ref C, dict := some hp.objs.size, data := .fields #[.ref t1, .none, .none, .none, .bool false, .none] } : Obj) := Heap.get?_update_self _ (Heap.get?_push_of_some _ ha) rfl
  refine PySem.HandSPX.store_in_new ⟨_, #[], 0, (Heap.get?_update_ne _ _ _ _ ne.symm).trans (Heap.get?_push_at rfl rfl), rfl, fun e he => absurd he (by simp), fun _ => rfl⟩ fun h' tk' hn sb => ?_
  have old : ∀ b o, b ≠ a → hp.get? b = some o → h'.get? b = some o := fun b o hb q => (sb.2 b (Nat.ne_of_lt (Heap.lt_size q))).trans (mid b o hb q)
  have hta : h'.get? a = _ := (sb.2 a ne).trans mida
  have off : ∀ {b : Addr}, H b = none → b ≠ a := fun {b} n z => by rw [z, ea] at n; cases n
  have big : ∀ {b : Addr} {o : Obj}, hp.get? b = some o → b ≠ hp.objs.size := fun {b o} q => Nat.ne_of_lt (Heap.lt_size q)
  have un : Un X.fs [] H (upd (upd H hp.objs.size (exd hp.objs.size [(f, y)])) a (exo a C (some hp.objs.size))) hp h' := {
    keep := fun b o q n _ _ => old b o (off n) q
    slot := fun b o q n _ _ => ⟨o.slots, old b o (off n) q⟩
    free := fun b o q n _ => (upd_ne (off n)).trans ((upd_ne (big q)).trans n)
    there := fun b o q _ => if hb : b = a then ⟨_, hb ▸ hta⟩ else ⟨o, old b o hb q⟩
    tups := fun b xs q => (upd_ne (at_ne ea q exo_tup)).trans ((upd_ne (ne_of_none q dn)).trans q)
    frzs := fun b o v q => (upd_ne (at_ne ea q exo_frz)).trans ((upd_ne (ne_of_none q dn)).trans q)
    tbls := fun b ps q => ⟨#[], ((upd_ne (at_ne ea q exo_tbl)).trans (upd_ne (ne_of_none q dn))).trans (by rw [q, Array.append_empty])⟩ }
  have all : HOk X.prog X.w (upd (upd H hp.objs.size (exd hp.objs.size [(f, y)])) a (exo a C (some hp.objs.size))) h' := fun b o q => by
    by_cases hb : b = a
    · cases hb
      rw [upd_same] at q
      cases q
      exact exo_ok hta
    · rw [upd_ne hb] at q
      by_cases hd : b = hp.objs.size
      · cases hd
        rw [upd_same] at q
        cases q
        exact exd_ok hn (relO_put (fs := []) ry fun _ => trivial)
      · rw [upd_ne hd] at q
        refine (I.hok b o q).stay (fun d v h1 h2 => old d v (fun z => ?_) h2) (fun d h1 => (upd_ne (at_ne ea h1 exo_own)).trans ((upd_ne (ne_of_none h1 dn)).trans h1)) fun d xs h1 => (upd_ne (at_ne ea h1 exo_tup)).trans ((upd_ne (ne_of_none h1 dn)).trans h1)
        rcases h1 with h1 | h1
        · exact hb (h1.symm.trans z)
        · rw [z, ea] at h1
          exact exo_own (Option.some.inj h1)
  exact fin _ _ dn ne.symm (I.un (t' := tk') un all)
/-- what such an __init__ promises -/
def spI (C : Addr) (f : Str) : Sp := fun vs H Q _ => ∃ (a : Addr) (v : V), vs = [.ref a, v] ∧ H a = some (exo a C none) ∧ ∀ dx, H dx = none → dx ≠ a → Q .non (upd (upd H dx (exd dx [(f, v)])) a (exo a C (some dx)))
theorem fl_init {P : Program} {w : World} {K : PySem.W.Frag} {mg : Str → Option Value} {base : Heap} {CX : CXT} {qual slf prm : Str} {params : Arguments} {scope : Scope} {fI : Addr} {fd : FuncData} {p1 p2 p3 p4 : Pos} (T : FlC K C f bm newId) (SF : StoreFacts B bm "object.__setattr__" "object")
    (F : FunD K "__init__" qual params [.Assign [.Attribute (.Name slf p1) f p2] (.Name prm p3) p4] scope [] [] fI fd) (S : FnScope [slf, prm] [slf, prm] scope) (h1 : (slf == ("__debug__" : Str)) = false) (h2 : (slf == ("__classdict__" : Str)) = false) (h3 : (prm == ("__debug__" : Str)) = false) (h4 : (prm == ("__classdict__" : Str)) = false) :
    FnOk P w K mg base CX 1 fI fd [slf, prm] (spI C f) := by
  refine F.ok S (fun vs H Q E ⟨_, _, e, _⟩ => by rw [e] <;> rfl) fun cdv A outer s H vs Q E _ ⟨a, v, e, ha, q⟩ => ?_
  have vis : ∀ {x : Str}, x ∈ [slf, prm] → Vis scope x := fun hx => (S.par _ hx).elim .inl fun z => .inr (.inl z)
  refine ⟨fun D σ H => ∃ a v, σ[0]? = some (some (.ref a)) ∧ σ[1]? = some (some v) ∧ H a = some (exo a C none) ∧ ∀ dx, H dx = none → dx ≠ a → D.nx σ (upd (upd H dx (exd dx [(f, v)])) a (exo a C (some dx))), pss_one ⟨fun pins s σ H D I ⟨a, v, s0, s1, ha, q⟩ => ?_⟩, ?_⟩
  · have right := (pe_var (X := cxOf CX P w K mg base [slf, prm] qual scope fI cdv A outer _ _ E) (x := prm) (i := 1) (pos := p3) rfl (vis (by simp)) h3 h4).run pins s σ H (fun z H1 => z = v ∧ H1 = H) I ⟨v, s1, rfl, rfl⟩
    refine plainObj_wpAny_Assign_Attribute (thn right fun u s2 ⟨z, H1, I1, rz, ez, eH⟩ => ?_)
    subst ez eH
    have left := (pe_var (X := cxOf CX P w K mg base [slf, prm] qual scope fI cdv A outer _ _ E) (x := slf) (i := 0) (pos := p1) rfl (vis (by simp)) h1 h2).run pins s2 σ H1 (fun z H2 => z = V.ref a ∧ H2 = H1) I1 ⟨_, s0, rfl, rfl⟩
    refine thn left fun u2 s3 ⟨z2, H2, I2, rz2, ez2, eH2⟩ => ?_
    subst ez2 eH2
    cases rz2
    exact fl_store T SF I2 ha rz fun dx s4 n1 n2 I4 => ⟨σ, _, I4, q dx n1 n2⟩
  · rw [e]
    exact ⟨a, v, rfl, rfl, ha, q⟩
/-- C(e), its one field the value of e -/
theorem pmk_fl {CX : CXT} {x : Str} {k : Nat} {fd : FuncData} {slf prm : Str} {e : Expr} {es : List Expr} {t : TA} {p pos : Pos} (T : FlC X.K C f bm newId) (FB : ExcBaseFacts B newId initId bm) (F1 : FnOk X.prog X.w X.K X.mg X.base CX k (He.ma X.K C "__init__") fd [slf, prm] (spI C f)) (hr : Room (k + 1) X.A) (hb : Binds X.K fd [slf, prm] [])
    (hx : Passes CX X (fun _ _ _ => False)) (hg : Gl X x) (hm : X.mg x = some (.ref C)) (ha : PA X (e :: es) t) (hdb : (x == ("__debug__" : Str)) = false := by decide) (hs : starEach (e :: es) X.env = (false, eval e X.env) :: starEach es X.env := by rfl) (hpl : (backTo pos (starEach es X.env)).any (·.1) = false := by rfl) :
    PMk X (.Call (.Name x p) (e :: es) [] pos) (fun σ H Q => t σ H fun vs H1 => ∃ v, vs = [v] ∧ ∀ dx, H1 dx = none → Q (.ref C) (some dx) (upd H1 dx (.xd [(f, v)]))) := by
  intro pins s σ H Q I h
  refine wpAny_Call_Name_kw (ld_glob I hg hm ?_ hdb)
  refine PySem.W.callWith_K (h₀ := X.base) I.ok.mod.kin T.kp (thn (ha.run pos pins s σ H _ I h) fun us s1 ⟨vs, H1, I1, r1, v, ev, q⟩ => ⟨I1.kIn, ?_⟩) hs hpl
  subst ev
  obtain ⟨u, rfl, ru⟩ : ∃ u, us = [u] ∧ RelV v u := by
    cases r1 with
    | cons a b => cases b; exact ⟨_, rfl, a⟩
  obtain ⟨nm, N, qn, bs, bm', hd, sn, sub, ab, col, dd, k0, k1, k2, k3, k5, hC, hT⟩ := PySem.W.excInit_of I1.kIn T.ei
  show wpAny _ _ (call (.ref C) [u]) _ _ _
  obtain ⟨hp, gg, dw, tt, os⟩ := s1
  have far : hp.objs.size ≤ hp.objs.size + 1 := Nat.le_succ _
  have fresh : H1 (hp.objs.size + 1) = none := I1.hok.fresh far
  have grow : ∀ b o, hp.get? b = some o → ((hp.push (PySem.W.kdv_tup [u])).push (PySem.HandSPX.excO C hp.objs.size)).get? b = some o := fun b o z => Heap.get?_push_of_some _ (Heap.get?_push_of_some _ z)
  have made : ((hp.push (PySem.W.kdv_tup [u])).push (PySem.HandSPX.excO C hp.objs.size)).get? (hp.objs.size + 1) = some (PySem.HandSPX.excO C hp.objs.size) := by heap_get
  have J := I1.laid (t' := tt) (o := exo (hp.objs.size + 1) C none) grow far (exo_ok made)
  have prom : spI C f [.ref (hp.objs.size + 1), v] (upd H1 (hp.objs.size + 1) (exo (hp.objs.size + 1) C none)) (fun z H2 => z = .non ∧ ∃ (d : Addr) (fs : List (Str × V)), H2 (hp.objs.size + 1) = some (exo (hp.objs.size + 1) C (some d)) ∧ H2 d = some (exd d fs) ∧ H1 d = none ∧ Q (.ref C) (some d) (upd (del H2 (hp.objs.size + 1)) d (.xd fs))) (fun _ _ _ => False) := by
    refine ⟨_, _, rfl, upd_same, fun dx n1 n2 => ?_⟩
    rw [upd_ne n2] at n1
    refine ⟨rfl, dx, [(f, v)], upd_same, by rw [upd_ne n2, upd_same], n1, ?_⟩
    have same : upd (del (upd (upd (upd H1 (hp.objs.size + 1) (exo (hp.objs.size + 1) C none)) dx (exd dx [(f, v)])) (hp.objs.size + 1) (exo (hp.objs.size + 1) C (some dx))) (hp.objs.size + 1)) dx (.xd [(f, v)]) = upd H1 dx (.xd [(f, v)]) := funext fun b => by
      by_cases z : b = dx
      · rw [z, upd_same, upd_same]
      · rw [upd_ne z, upd_ne z]
        by_cases y : b = hp.objs.size + 1
        · rw [y, del_same, fresh]
        · rw [del_ne y, upd_ne y, upd_ne z, upd_ne y]
    rw [same]
    exact q dx n1
  refine wpAny_call (PySem.HandSPX.call_own FB hT hC (PySem.W.looks_findIn I1.kIn T.ic) (fun self => PySem.W.bind_fn I1.kIn self T.it) (by rw [sizeLine_eq]; simp) (codeAny_mono (F1.run _ X.stack _ _ ⟨[Value.ref (hp.objs.size + 1), u], []⟩ [Value.ref (hp.objs.size + 1), u] [V.ref (hp.objs.size + 1), v] _ _ (hr.make C [u] [])
    (J.env0.make C [u] []) (by have b := hb ⟨_, gg, dw, tt, os⟩ [Value.ref (hp.objs.size + 1), u] J.kIn rfl; rw [List.append_nil] at b; exact b) (.cons rfl (.cons ru .nil)) prom) fun r s2 z => ?_))
  match r, z with
  | .error er, z => exact hx pins σ _ _ er s2 J z
  | .ok (.ret w), z =>
    obtain ⟨y, H2, o2, b2, un2, hk2, ry, ey, d, fs, g1, g2, g3, g4⟩ := z
    subst ey
    obtain ⟨h2, gg2, dw2, tt2, os2⟩ := s2
    exact ⟨ry, mk_end (raises_own T.ex T.ty) I1 far grow un2 hk2 o2 b2 g1 g2 g3 g4⟩
  | .ok .next, z => exact z.elim
  | .ok .brk, z => exact z.elim
  | .ok .cont, z => exact z.elim
/-- raise C(e): what is told -/
def sRaiseF (C f : Str) (g : M Hd) : MS := ex (bnd g cl) fun x ρ => some (.er (.fl C f x), ρ)
def sRaiseP (C : Str) : MS := fun ρ => some (.er (.pl C), ρ)
end
end DL
end
section
set_option Elab.async false
set_option linter.all false
set_option maxRecDepth 100000
set_option maxHeartbeats 2000000
/-! DLT: try with several clauses, each with a name or none. -/
namespace DL
open PySem PySem.Spec L2
open PyProof.Rows hiding St
variable [Tb0]

abbrev Cla := Value × Option Nat × (Addr → Value → Option Addr → TS)
/-- the ends of a suite, the name's slot emptied behind it -/
def Ends.off (D : Ends) : Option Nat → Ends
  | none => D
  | some i => { nx := fun τ G => D.nx (τ.set i none) G, rt := D.rt, bk := fun τ G => D.bk (τ.set i none) G, ct := fun τ G => D.ct (τ.set i none) G }
def onSlot (τ : St) (a : Addr) : Option Nat → St
  | none => τ
  | some i => τ.set i (some (.ref a))
/-- what the clauses wish of what the body raises -/
def wAll (K : PySem.W.Frag) (n : Nat) (Wout : WX) (D : Ends) : List Cla → WX
  | [] => Wout
  | z :: r => fun cls d τ G => ∃ b, PySem.W.exmOne K cls z.1 = some b ∧ (b = true → ∀ a, G a = none → τ.length = n → z.2.2 a cls d (Ends.off D z.2.1) (onSlot τ a z.2.1) G) ∧ (b = false → wAll K n Wout D r cls d τ G)
/-- the clauses' suites keep what is told of them -/
inductive Clz (X : Cx) : List ExceptHandler → List Cla → Prop
  | nil : Clz X [] []
  | bare {x : Str} {c : Value} {ts : Addr → Value → Option Addr → TS} {b0 : Stmt} {su : List Stmt} {q1 q2 : Pos} {hds : List ExceptHandler} {l : List Cla} (hc : Names X x c)
      (hsu : ∀ (a : Addr) (oe : Obj) (cls : Value) (d : Option Addr) (pn : List (Addr × Obj)), Zc cls d oe → (∃ vs, oe.data = .fields vs) → PSs (X.suite a ((a, oe) :: pn)) (b0 :: su) (ts a cls d)) (r : Clz X hds l) :
      Clz X (.ExceptHandler (some (.Name x q1)) none (b0 :: su) q2 :: hds) ((c, none, ts) :: l)
  | as_ {x n : Str} {i : Nat} {c : Value} {ts : Addr → Value → Option Addr → TS} {b0 : Stmt} {su : List Stmt} {q1 q2 : Pos} {hds : List ExceptHandler} {l : List Cla} (hc : Names X x c) (hi : X.N[i]? = some n) (hk : X.env.kindOf n = some .local)
      (hsu : ∀ (a : Addr) (oe : Obj) (cls : Value) (d : Option Addr) (pn : List (Addr × Obj)), Zc cls d oe → (∃ vs, oe.data = .fields vs) → PSs (X.suite a ((a, oe) :: pn)) (b0 :: su) (ts a cls d)) (r : Clz X hds l) :
      Clz X (.ExceptHandler (some (.Name x q1)) (some n) (b0 :: su) q2 :: hds) ((c, some i, ts) :: l)
section
variable {X : Cx} {body : List Stmt} {h0 : ExceptHandler} {hds : List ExceptHandler} {l : List Cla} {pos : Pos} {tb : WX → TS} {Wout : WX}
/-- what a suite leaves -/
theorem suite_end {M : Model} {A : Around} {E : Value → Shared → Prop} {pins : List (Addr × Obj)} {a : Addr} {oe : Obj} {D : Ends} {fl : Flow} {s6 : Shared} {R : Flow → Shared → Prop} (ok : X.Ok) (h : SP (X.suite a ((a, oe) :: (X.pn ++ pins))) [] D fl s6)
    (k : SP X pins D fl s6 → R fl s6) : R fl s6 := by
  refine k ?_
  cases fl with
  | next => obtain ⟨τ, G, J, q⟩ := h; exact ⟨τ, G, J.unsuite ok, q⟩
  | brk => obtain ⟨τ, G, J, q⟩ := h; exact ⟨τ, G, J.unsuite ok, q⟩
  | cont => obtain ⟨τ, G, J, q⟩ := h; exact ⟨τ, G, J.unsuite ok, q⟩
  | ret u => obtain ⟨v, τ, G, J, rv, q⟩ := h; exact ⟨v, τ, G, J.unsuite ok, rv, q⟩
theorem ps_try_g (hs : X.stack = X.env :: X.outer) (hf : X.env.frame = some X.env.locals) (hN : X.N.Nodup) (tk : Takes X Wout)
    (hb : ∀ (W : WX) (pn : List (Addr × Obj)) (xe : Value → Shared → Prop), Takes (X.tr pn xe) W → PassesOwn (model X.prog X.w) X.A X.env xe → PSs (X.tr pn xe) body (tb W)) (hh : Clz X (h0 :: hds) l) :
    PS X (.Try body (h0 :: hds) [] [] pos) (fun D σ H => tb (wAll X.K X.N.length Wout D l) D σ H) := ⟨fun pins s σ H D I h => by
  have ok := I.ok
  have frames : X.A.frames = some (X.env :: X.outer) := ok.frames.trans (congrArg some hs)
  refine wpAny_Try_except (wpAny_mono ((hb (wAll X.K X.N.length Wout D l) (X.pn ++ pins) (fun e s1 => wpAny (model X.prog X.w) X.A (noteFrame e X.env) (fun _ s2 => wpAny (model X.prog X.w) X.A (setFlight e none) (fun _ s3 => wpAny (model X.prog X.w) X.A (handleBy e X.env (h0 :: hds)) (SP X pins D) X.xe s3) X.xe s2) X.xe s1)
    (fun u s' xx => ?_) PassesOwn.looking).run [] s σ H D (I.toTry _) h) (fun f s1 z => ?_) fun e s1 he => he)
  · obtain ⟨a, B, sI, pins2, τ, G, cls, d, rfl, J0, nb, up, sky, na, os, ag, w⟩ := xx
    have J : Inv X pins τ G sI := J0.ofTry ok
    rw [hs] at sky
    show wpAny (model X.prog X.w) X.A (noteFrame (.ref a) X.env) _ _ _
    refine Sky.land Zc.steady frames hf sky fun g3 fly up3 => ?_
    have J3 : Inv X pins τ G { s' with heap := g3 } := J.landed nb fly.1 (up.trans up3) os ag
    obtain ⟨o3, f3, at3, z3, d3⟩ := fly.there
    have outF : a ∉ frs (X.env :: X.outer) := fun hm => by
      obtain ⟨_, o, e, nofields⟩ := fly.2.2.1.mem hm
      rw [at3] at e
      cases e
      exact nofields _ d3
    have notL : a ≠ X.env.locals := fun z => outF (List.mem_filterMap.mpr ⟨X.env, List.mem_cons_self, hf.trans (congrArg some z.symm)⟩)
    have notO : a ∉ X.fs := fun hm => let ⟨e, he, q⟩ := List.mem_filterMap.mp hm; outF (List.mem_filterMap.mpr ⟨e, List.mem_cons_of_mem _ he, q⟩)
    have K3 := J3.suite at3 d3 na notL notO
    have names : ∀ {x : Str} {c : Value} {np : Pos} {Q E : Value → Shared → Prop}, Names X x c → Q c { s' with heap := g3 } → wpAny (model X.prog X.w) (X.A.mark (some (.ref a))) (eval (.Name x np) X.env) Q E { s' with heap := g3 } := fun {x c np Q E} hc q => by
      obtain ⟨g1, g2, g | ⟨g, v, nn⟩⟩ := hc
      · exact ld_glob (X := X.suite a ((a, o3) :: (X.pn ++ pins))) K3 g1 g q g2
      · exact ld_blt (X := X.suite a ((a, o3) :: (X.pn ++ pins))) K3 g1 g v q nn g2
    have cl3 : PySem.W.Looks (model X.prog X.w) g3 (typeOf (.ref a)) cls := fun A Q E s k q => wpAny_typeOf_ref (k _ _ at3) (z3.1.symm ▸ q)
    have later : ∀ {g4 : Heap}, PySem.HandSPX.FlyingZ B (X.env :: X.outer) a (Zc cls d) g4 → g3.UpToSlots g4 → ∃ o4, (Zc cls d o4 ∧ ∃ vs, o4.data = .fields vs) ∧ Inv (X.suite a ((a, o4) :: (X.pn ++ pins))) [] τ G { s' with heap := g4 } := fun {g4} fly4 up4 => by
      obtain ⟨o4, f4, at4, z4, d4⟩ := fly4.there
      have J4 : Inv X pins τ G { s' with heap := g4 } := J.landed nb fly4.1 ((up.trans up3).trans up4) os ag
      exact ⟨o4, ⟨z4, _, d4⟩, J4.suite at4 d4 na notL notO⟩
    have all : ∀ {hs' : List ExceptHandler} {l' : List Cla}, Clz X hs' l' → wAll X.K X.N.length Wout D l' cls d τ G → wpAny (model X.prog X.w) X.A (handleBy (.ref a) X.env hs') (SP X pins D) X.xe { s' with heap := g3 } := by
      intro hs' l' hk
      induction hk with
      | nil =>
        intro w
        refine wpAny_handleBy_nil ?_
        obtain ⟨_, _, _, o5, f5, T5, _, _, at5, _, d5, one, _⟩ := id fly
        have up_ : wpAny (model X.prog X.w) X.A (setFlight (.ref a) X.env.frame) (fun _ s4 => wpAny (model X.prog X.w) X.A (throw (.ref a) : Sem Flow) (SP X pins D) X.xe s4) X.xe { s' with heap := g3 } := by
          rw [hf]
          refine HandSPX.setFlight_upZ fly fun g4 held up4 => wpAny_throw (tk _ _ ⟨a, B, sI, pins, τ, G, cls, d, rfl, J, nb, (up.trans up3).trans up4, .inr (.inr ?_), na, os, ag, w⟩)
          rw [hs]
          exact held
        unfold PySem.passOn
        refine wpAny_bind (wpAny_field at5 d5 one ?_)
        rw [if_neg (show ¬ ((Value.ref T5 == Value.none) = true) by simp)]
        first
          | exact wpAny_bind up_
          | exact wpAny_bind (wpAny_pure (wpAny_bind up_))
      | @bare x c ts b0 su q1 q2 hd2 l2 hc hsu r ih =>
        intro ⟨b, eb, yes, no⟩
        refine wpAny_handleBy_cons (codeAny_handlers_test (names hc ((PySem.W.exm_one J3.kIn cl3 eb).here ?_))) (by intro q; cases q)
        cases b with
        | false => exact ih (no rfl)
        | true =>
          refine codeAny_handlers_suite (HandSPX.lands_againZ fly fun g4 fly4 up4 => ?_)
          obtain ⟨o4, ⟨z4, d4⟩, S4⟩ := later fly4 up4
          exact wpAny_mono ((hsu a o4 cls d (X.pn ++ pins) z4 d4).run [] _ _ G _ S4 (yes rfl a na J.len)) (fun fl s6 z => suite_end (M := model X.prog X.w) (A := X.A) (E := X.xe) (R := SP X pins D) ok z id) fun _ _ z => False.elim z
      | @as_ x n i c ts b0 su q1 q2 hd2 l2 hc hi hk2 hsu r ih =>
        intro ⟨b, eb, yes, no⟩
        refine wpAny_handleBy_cons (codeAny_handlers_test (names hc ((PySem.W.exm_one J3.kIn cl3 eb).here ?_))) (by intro q; cases q)
        cases b with
        | false => exact ih (no rfl)
        | true =>
          refine codeAny_handlers_suite_as (HandSPX.lands_againZ fly fun g4 fly4 up4 => ?_)
          obtain ⟨o4, ⟨z4, d4⟩, S4⟩ := later fly4 up4
          refine store_ok (X := X.suite a ((a, o4) :: (X.pn ++ pins))) (v := .ref a) S4 hN hi (.inl hk2) rfl (fun s5 S5 => ?_) (.inr hk2)
          refine wpAny_mono ((hsu a o4 cls d (X.pn ++ pins) z4 d4).run [] s5 _ G _ S5 (yes rfl a na J.len)) (fun fl s6 z => ?_) fun _ _ z => False.elim z
          have gone : ∀ {τ6 : St} {G6 : Hp} {Q : Shared → Prop}, Inv (X.suite a ((a, o4) :: (X.pn ++ pins))) [] τ6 G6 s6 → (∀ s7, Inv X pins (τ6.set i none) G6 s7 → Q s7) → wpAny (model X.prog X.w) X.A (do bindName X.env n .none; unbindBehindTheSuite X.env n q2) (fun _ s7 => Q s7) X.xe s6 := fun K6 q => gone_ok (K6.unsuite ok) hN hi hk2 q
          cases fl with
          | next => obtain ⟨τ6, G6, K6, q⟩ := z; exact gone K6 fun s7 K7 => ⟨_, _, K7, q⟩
          | brk => obtain ⟨τ6, G6, K6, q⟩ := z; exact gone K6 fun s7 K7 => ⟨_, _, K7, q⟩
          | cont => obtain ⟨τ6, G6, K6, q⟩ := z; exact gone K6 fun s7 K7 => ⟨_, _, K7, q⟩
          | ret u => obtain ⟨v6, τ6, G6, K6, rv, q⟩ := z; exact gone K6 fun s7 K7 => ⟨_, _, _, K7, rv, q⟩
    exact all hh w
  · cases f with
    | next => obtain ⟨τ, G, J, q⟩ := z; exact wpAny_execs_nil ⟨τ, G, J.ofTry ok, q⟩
    | brk => obtain ⟨τ, G, J, q⟩ := z; exact ⟨τ, G, J.ofTry ok, q⟩
    | cont => obtain ⟨τ, G, J, q⟩ := z; exact ⟨τ, G, J.ofTry ok, q⟩
    | ret u => obtain ⟨v, τ, G, J, rv, q⟩ := z; exact ⟨v, τ, G, J.ofTry ok, rv, q⟩⟩
end
end DL
end
section
set_option Elab.async false
set_option linter.all false
set_option maxRecDepth 100000
set_option maxHeartbeats 2000000
/-! DLG: defs called where no repr is under way; repr. -/
namespace DL
open PySem PySem.Spec L2
open PyProof.Rows hiding St
variable [Tb0]
def reprOk (p : PyData) : Bool := p.showable && (!p.hasDict && (decide (p.shown.length ≤ 100000) && decide (p.depth ≤ 40)))
def reprP (x : D) : Option Str := match toPy x with
  | some p => if reprOk p = true then some p.shown else none
  | none => none
def oRepr : List D → Option D
  | [x] => (reprP x).map .str
  | _ => none
section
variable {X : Cx}
theorem cr_repr (hu : X.A.units + 64 < cLine) (hgd : X.A.guards = some []) : CallR X (.builtin "repr") (fun vs H Q => ∃ v p, vs = [v] ∧ Dp X.K H v p ∧ reprOk p = true ∧ Q (.str p.shown) H) := by
  intro pins s σ H xs us Q I r h
  obtain ⟨v, p, rfl, hd, ok, q⟩ := h
  obtain ⟨u, rfl, ru⟩ := vals1 r
  obtain ⟨as, rd⟩ := Dp.reads I p v u hd ru
  unfold reprOk at ok
  obtain ⟨o1, ok⟩ := He.ba ok
  obtain ⟨o2, ok⟩ := He.ba ok
  obtain ⟨o3, o4⟩ := He.ba ok
  have o2 : p.hasDict = false := by simpa using o2
  have o3 := of_decide_eq_true o3
  have o4 := of_decide_eq_true o4
  have big : p.shown.length ≤ sizeLine := by rw [sizeLine_eq]; omega
  have ref : ∀ {a : Addr}, u = .ref a → wpAny (model X.prog X.w) X.A (call (.builtin "repr") [u]) (EP X pins σ Q) X.xe s := fun {a} e => by
    subst e
    exact repr_of_reads' rd o1 (PyData.noDict_hsm o2) hgd (by omega) (fun _ _ e => e) (fun h' t tk k => ⟨.str p.shown, H, I.kept (t' := tk) k, ⟨t, rfl⟩, q⟩) big
  cases rd with
  | none => exact PySem.P.repr_of_none ⟨.str _, H, I.tok _, ⟨_, rfl⟩, q⟩
  | bool b => exact PySem.P.repr_of_bool ⟨.str _, H, I.tok _, ⟨_, rfl⟩, q⟩
  | int i t => exact PySem.P.repr_of_int (of_decide_eq_true o1) ⟨.str _, H, I.tok _, ⟨_, rfl⟩, q⟩
  | str x t => exact PySem.P.repr_of_str (h := ⟨.str _, H, I.tok _, ⟨_, rfl⟩, q⟩) big
  | list _ _ _ _ => exact ref rfl
  | tuple _ _ _ _ => exact ref rfl
  | dict _ _ _ _ _ => exact ref rfl
theorem cd_repr (hu : X.A.units + 64 < cLine) (hgd : X.A.guards = some []) : CallD X (.builtin "repr") oRepr := by
  refine ⟨_, cr_repr hu hgd, fun F H vs xs z Q fh qx e k => ?_⟩
  cases xs with
  | nil => cases e
  | cons x t =>
    cases t with
    | cons _ _ => cases e
    | nil =>
      obtain ⟨v, rfl, qv⟩ := qx.one
      have e : (reprP x).map D.str = some z := e
      unfold reprP at e
      cases q : toPy x with
      | none => rw [q] at e; cases e
      | some p =>
        rw [q] at e
        dsimp only at e
        by_cases c : reprOk p = true
        · rw [if_pos c] at e
          cases e
          exact ⟨v, p, rfl, qv.dp fh q, c, k _ F H (Alloc.refl fh) (.str _)⟩
        · rw [if_neg c] at e; cases e
end
/-- a def's promise where nothing is being shown -/
structure FnG (P : Program) (w : World) (K : PySem.W.Frag) (mg : Str → Option Value) (base : Heap) (k : Nat) (f : Addr) (fd : FuncData) (ps : List Str) (sp : Sp) : Prop where
  len : ∀ vs H Q E, sp vs H Q E → vs.length = ps.length
  run : ∀ (A : Around) (outer : List Env) (s : Shared) (H : Hp) (args : Args) (us : List Value) (vs : List V) (Q : VK) (E : XK), A.guards = some [] → Room k A → Env0 P w K mg base A outer s H → BindsTo s fd args (ps.zip us) → Vals vs us → sp vs H Q E →
    codeAny (model P w) A (.call (.ref f) args) (CR (L2.CX P w) outer P w H s Q E) s
structure OkG (P : Program) (w : World) (K : PySem.W.Frag) (mg : Str → Option Value) (base : Heap) (k : Nat) (x : Str) (ps : List Str) (c : Con) : Prop where
  ex : ∃ fd, FnG P w K mg base k (He.ga K x) fd ps (spC K ps.length c) ∧ Binds K fd ps [] ∧ ∃ (oc : Value) (od : Option Addr) (osl : Array (Option Value)), K.lookup (He.ga K x) = some ⟨oc, od, .func fd, osl⟩
  gm : mg x = some (.ref (He.ga K x))
  kp : PySem.W.keepIn K (.ref (He.ga K x)) = true
section
variable {P : Program} {w : World} {K : PySem.W.Frag} {mg : Str → Option Value} {base : Heap}
theorem mkOkG {x : Str} {params : Arguments} {body : List Stmt} {scope : Scope} {N ps : List Str} {k : Nat} {g : MS} {c : Con} (hf : ∃ fd, FunD K x x params body scope [] [] (He.ga K x) fd) (gm : mg x = some (.ref (He.ga K x))) (S : FnScope N ps scope)
    (hb : ∀ (kV doc pm : Value) (an : Option Addr) (cdv ct : Value) (us : List Value), us.length = ps.length → bindArgs (PySem.W.fnOf x x params body scope .none kV doc pm an cdv ct) ⟨us, []⟩ = pure (ps.zip us))
    (hbody : ∀ (cdv : Value) (A : Around) (outer : List Env) (s : Shared) (H : Hp) (E : XK), A.guards = some [] → PySem.W.codeIn K cdv x = true → (∃ oc od dV kV doc pm an ct osl, K.lookup (He.ga K x) = some ⟨oc, od, .func (PySem.W.fnOf x x params body scope dV kV doc pm an cdv ct), osl⟩) → Room k (A.deeper (envOfC x scope s.heap.objs.size (He.ga K x) cdv)) →
      JSs (cxOf (L2.CX P w) P w K mg base N x scope (He.ga K x) cdv A outer s H E) (fun cls d _ H => E cls d H) body g) (hc : c = conOf ps.length N.length g) : OkG P w K mg base (k + 1) x ps c := by
  obtain ⟨fd, F⟩ := hf
  rw [hc]
  have hpl : ps.length ≤ N.length := by have := congrArg List.length S.pre; rw [List.length_take] at this; omega
  have hbi := F.bindsN hb
  obtain ⟨oc, od, dV, kV, doc, pm, an, cdv, ct, osl, e, lk, hcd, _, _⟩ := id F.ex
  subst e
  exact ⟨⟨_, ⟨fun vs H Q E h => h.1, fun A outer s H args us vs Q E gd hr e0 bd rv h => LamX.run_ofS lk hcd S hr e0 bd rv h.1 fun hr' => ⟨_, hbody cdv A outer s H E gd hcd ⟨_, _, _, _, _, _, _, _, _, lk⟩ hr', con_ts hpl h⟩⟩, hbi, oc, od, osl, lk⟩, gm, F.kp⟩
theorem OkG.at {x : Str} {params : Arguments} {body : List Stmt} {scope : Scope} {ps : List Str} {k : Nat} {c : Con} {fd : FuncData} (h : OkG P w K mg base k x ps c) (F : FunD K x x params body scope [] [] (He.ga K x) fd) : FnG P w K mg base k (He.ga K x) fd ps (spC K ps.length c) := by
  obtain ⟨fd1, G, b, oc, od, osl, l1⟩ := h.ex
  obtain ⟨oc', od', dV, kV, doc, pm, an, cdv, ct, osl', e, lk, _⟩ := F.ex
  rw [l1] at lk
  cases lk
  exact G
end
section
variable {X : Cx} {Wx : WX} {e : Expr} {es : List Expr} {pos p : Pos} {x : Str} {n k : Nat} {c : Con} {ps : List Str}
theorem pe_callG {t : TA} {sp : Sp} {fd : FuncData} {f : Addr} (G : FnG X.prog X.w X.K X.mg X.base k f fd ps sp) (hgd : X.A.guards = some []) (hr : Room k X.A) (hg : Gl X x) (hm : X.mg x = some (.ref f)) (hk : PySem.W.keepIn X.K (.ref f) = true) (hb : Binds X.K fd ps []) (tk : Takes X Wx) (ha : PA X (e :: es) t)
    (hdb : (x == ("__debug__" : Str)) = false := by decide) (he : starEach (e :: es) X.env = (false, eval e X.env) :: starEach es X.env := by rfl) (hpl : (backTo pos (starEach es X.env)).any (·.1) = false := by rfl) :
    PE X (.Call (.Name x p) (e :: es) [] pos) (tCallS sp (WE Wx) t) := ⟨fun pins s σ H Q I h => by
  refine wpAny_Call_Name_kw (ld_glob I hg hm ?_ hdb)
  refine PySem.W.callWith_K (h₀ := X.base) I.ok.mod.kin hk (thn (ha.run pos pins s σ H _ I h) fun us s2 ⟨vs, H2, I2, rs, q⟩ => ⟨I2.kIn, ?_⟩) he hpl
  have len : us.length = ps.length := rs.length.symm.trans (G.len _ _ _ _ q)
  have bd := hb s2 us I2.kIn (by rw [List.append_nil]; exact len)
  rw [List.append_nil] at bd
  refine wpAny_call (codeAny_mono (G.run X.A X.stack s2 H2 ⟨us, []⟩ us vs Q (WE Wx σ) hgd hr I2.env0 bd rs q) fun r s3 z => ?_)
  match r, z with
  | .error y, z => exact passAt tk σ pins H2 s2 y s3 I2 z
  | .ok (.ret u), z => exact I2.after z
  | .ok .next, z => exact z.elim
  | .ok .brk, z => exact z.elim
  | .ok .cont, z => exact z.elim⟩
theorem je_callG {f : M (List Hd)} (ms : List Bool) (G : OkG X.prog X.w X.K X.mg X.base k x ps c) (hgd : X.A.guards = some []) (hr : Room k X.A) (tk : Takes X Wx) (ha : JA X Wx (e :: es) f) (hl : lenA ps.length f) (hg : Gl X x := by rfl) (hdb : (x == ("__debug__" : Str)) = false := by decide) (he : starEach (e :: es) X.env = (false, eval e X.env) :: starEach es X.env := by rfl) (hpl : (backTo pos (starEach es X.env)).any (·.1) = false := by rfl) :
    JE X Wx (.Call (.Name x p) (e :: es) [] pos) (dCall ms c f) := by
  obtain ⟨⟨fd, F, b, _⟩, gm, kp⟩ := G
  exact PE.imp (pe_callG F hgd hr hg gm kp b tk ha hdb he hpl) fun σ H Q ⟨W, F, ρ, S, R⟩ => ⟨W, F, ρ, S, tE_callF S R.bind (fun hs ρ' e => hl _ _ _ e) (fun ρ' y F' H' S' R' v q => by
      obtain ⟨z, ez, R2⟩ := RunAt.lft0 R'
      cases ez
      exact R2.pur S' (Same.refl _) v q) fun ρ' xs F' H' S' R' a q l => by
      obtain ⟨z, ez, R2⟩ := RunAt.lft0 R'
      cases ez⟩
theorem pe_callG0 {sp : Sp} {fd : FuncData} {f : Addr} (G : FnG X.prog X.w X.K X.mg X.base k f fd ps sp) (hgd : X.A.guards = some []) (hr : Room k X.A) (hg : Gl X x) (hm : X.mg x = some (.ref f)) (hk : PySem.W.keepIn X.K (.ref f) = true) (hb : Binds X.K fd ps []) (tk : Takes X Wx) (hdb : (x == ("__debug__" : Str)) = false := by decide) :
    PE X (.Call (.Name x p) [] [] pos) (tCallS sp (WE Wx) tNil) := ⟨fun pins s σ H Q I h => by
  refine wpAny_Call_Name_kw (ld_glob I hg hm ?_ hdb)
  refine PySem.W.callWith_K0 I.kIn hk ?_
  have q : sp [] H Q (WE Wx σ) := h
  have len : ([] : List Value).length = ps.length := G.len _ _ _ _ q
  have bd := hb s [] I.kIn (by rw [List.append_nil]; exact len)
  rw [List.append_nil] at bd
  refine wpAny_call (codeAny_mono (G.run X.A X.stack s H ⟨[], []⟩ [] [] Q (WE Wx σ) hgd hr I.env0 bd .nil q) fun r s3 z => ?_)
  match r, z with
  | .error y, z => exact passAt tk σ pins H s y s3 I z
  | .ok (.ret u), z => exact I.after z
  | .ok .next, z => exact z.elim
  | .ok .brk, z => exact z.elim
  | .ok .cont, z => exact z.elim⟩
theorem je_callG0 (G : OkG X.prog X.w X.K X.mg X.base k x ps c) (hgd : X.A.guards = some []) (hr : Room k X.A) (tk : Takes X Wx) (hps : ps = []) (hg : Gl X x := by rfl) (hdb : (x == ("__debug__" : Str)) = false := by decide) : JE X Wx (.Call (.Name x p) [] [] pos) (dCall [] c dNil) := by
  obtain ⟨⟨fd, F, b, _⟩, gm, kp⟩ := G
  subst hps
  exact PE.imp (pe_callG0 F hgd hr hg gm kp b tk hdb) fun σ H Q ⟨W, F, ρ, S, R⟩ => (tE_callF (n := 0) (f := dNil) S R.bind (fun hs ρ' e => by cases e; rfl) (fun ρ' y F' H' S' R' v q => by
      obtain ⟨z, ez, R2⟩ := RunAt.lft0 R'
      cases ez
      exact R2.pur S' (Same.refl _) v q) fun ρ' xs F' H' S' R' a q l => by
      obtain ⟨z, ez, R2⟩ := RunAt.lft0 R'
      cases ez).pur S (Same.refl _) [] .nil
end
end DL
end
section
set_option Elab.async false
set_option linter.all false
set_option maxRecDepth 100000
set_option maxHeartbeats 2000000
/-! DLL: a def that calls what it got and tells what came of it; such a def given a lambda. -/
namespace DL
open PySem PySem.Spec L2
open PyProof.Rows hiding St
variable [Tb0]
section
variable {K : PySem.W.Frag} {W : Wd} {ρ : Rho} {σ : St} {F H H1 : Hp}
/-- tables may grow -/
theorem StOk.extN (S : StOk K W ρ σ F H) (e : LamX.ExtN H H1) (t : LamX.Tabs (Tb0.T K) H1) : StOk K W ρ σ F H1 where
  cfg := {
    fh := fun a o h => e a o (S.cfg.fh a o h) fun ps z => S.cfg.nt a ps (h.trans (congrArg some z))
    ff := S.cfg.ff
    hh := fun a o h1 h2 => e a o (S.cfg.hh a o h1 h2) fun ps z => S.cfg.n0 a ps (h1.trans (congrArg some z))
    n0 := S.cfg.n0
    nf := S.cfg.nf
    bb := fun a h => let ⟨vs, q⟩ := S.cfg.bb a h; ⟨vs, e a _ q (fun _ z => nomatch z)⟩
    tb := t
    nt := S.cfg.nt }
  len := S.len
  sl := fun i s h => by
    obtain ⟨v, g1, g2⟩ := S.sl i s h
    refine ⟨v, g1, ?_⟩
    cases s with
    | no => trivial
    | d x => exact g2
    | o b xs =>
      obtain ⟨a, rfl, ⟨vs, g3, g4⟩, g5, g6⟩ := g2
      exact ⟨a, rfl, ⟨vs, e a _ g3 (fun _ z => nomatch z), g4⟩, g5, g6⟩
  dis := S.dis
end
/-- what such a def tells: fine, or what hnd makes of an error -/
def dMet (hnd : Er → Option D) (fine : Str) (m : M Hd) : M Hd := fun ρ => match m ρ with
  | some (.ok _, ρ1) => some (.ok (.d (.str fine)), ρ1)
  | some (.error e, ρ1) => (match hnd e with
    | some z => some (.ok (.d z), ρ1)
    | none => none)
  | none => none
/-- an error that hnd knows -/
def Known (K : PySem.W.Frag) (hnd : Er → Option D) (cls : Value) (d : Option Addr) (H : Hp) (Q : VK) : Prop := ∃ F e z, ErOk K F H e cls d ∧ Same F H ∧ hnd e = some z ∧ ∀ v, Dq K F v z → Q v H
def TTm (K : PySem.W.Frag) (hnd : Er → Option D) (fine : Str) : (XK → Hp → VK → Prop) → Hp → VK → Prop := fun tl H Q => tl (fun cls d H' => Known K hnd cls d H' Q) H fun _ H' => Q (.str fine) H'
/-- x: def x(a): try: a() / except ..; return fine -/
theorem met_gives {X : Cx} {Ng : List Str} {x a q : Str} {sg : Scope} {g : Addr} {cdg : Value} {hnd : Er → Option D} {fine : Str} {hds : List ExceptHandler} {h0 : ExceptHandler} {l : List Cla} {j : Nat} {p1 p2 p3 p4 p5 p6 : Pos} (hN : Ng.Nodup) (hn : Ng.length = 2 ∨ Ng.length = 1)
    (hC : ∀ s H, Clz (cxOf C8.CX0 X.prog X.w X.K X.mg X.base Ng x sg g cdg X.A X.stack s H C8.E0).nox (h0 :: hds) l)
    (hL : ∀ (D : Ends) (τ : St) (cls : Value) (d : Option Addr) (G : Hp), Known X.K hnd cls d G D.rt → wAll X.K Ng.length (fun _ _ _ _ => False) D l cls d τ G) (h00 : ∀ f : Addr, (L2.start Ng [V.ref f])[0]? = some (some (V.ref f))) :
    LamX.GivesTo X Ng x sg g cdg [.Try [.Expr (.Call (.Name a p1) [] [] p2) p3] (h0 :: hds) [] [] p4, .Return (some (.Constant (.str fine) j p5)) p6] a q (TTm X.K hnd fine) := by
  intro f c' s H Q tl act hc h
  refine ⟨_, pss_cons (ps_try_g (X := (cxOf C8.CX0 X.prog X.w X.K X.mg X.base Ng x sg g cdg X.A X.stack s H C8.E0).nox) (l := l)
      (tb := fun W D σ H => ∃ Ech : XK, (∀ cls d σ' H', Ech cls d H' → W cls d σ' H') ∧ σ[0]? = some (some (.ref f)) ∧ H c' = some (LamX.CodeO c' q) ∧ tl Ech H (fun _ H' => D.nx σ H'))
      rfl rfl hN LamX.takes0 (fun W pn xe tk _ => ?_) (hC s H)) (pss_one (ps_ret pe_str)), ?_⟩
  · refine ⟨fun pins s' σ H' D I h' => ?_⟩
    obtain ⟨Ech, hW, h1, h2, h3⟩ := h'
    exact (pss_one (ps_expr (pos := p3) (act W pn xe Ech p1 p2 tk hW))).run pins s' σ H' D I ⟨h1, h2, h3⟩
  · exact ⟨fun cls d H' => Known X.K hnd cls d H' Q, fun cls d σ' H' k => hL _ _ cls d H' k, h00 f, hc, h⟩
section
variable {X : Cx} {Wx : WX}
/-- x(lambda: body) -/
theorem je_lam {x a : Str} {fd : FuncData} {pg : Arguments} {bg : List Stmt} {sg : Scope} {Ng : List Str} {k : Nat} {c P : Addr} {params : Arguments} {body : Expr} {scope : Scope} {p lpos pos : Pos} {hnd : Er → Option D} {fine : Str} {m : M Hd}
    (F : FunD X.K x x pg bg sg [] [] (He.ga X.K x) fd) (gm : X.mg x = some (.ref (He.ga X.K x))) (Sg : FnScope Ng [a] sg) (hb : ∀ (kV doc pm : Value) (an : Option Addr) (cdv ct : Value) (us : List Value), us.length = [a].length → bindArgs (PySem.W.fnOf x x pg bg sg .none kV doc pm an cdv ct) ⟨us, []⟩ = pure ([a].zip us))
    (hNg : Ng[0]? = some a) (hva : Vis sg a) (hG : ∀ cdv, LamX.GivesTo X Ng x sg (He.ga X.K x) cdv bg a (X.env.qual ++ "<lambda>") (TTm X.K hnd fine)) (TB : LamX.TabB X.base X.mg c P) (hcode : X.env.code = .ref c) (hT : Tb0.T X.K = [(P, X.env.qual ++ "<lambda>")]) (hr : Room (k + 2) X.A) (L : LamX.LamS X.env.scope scope)
    (hbind : ∀ (q : Str) (cl : List (Str × Addr)) (pm cv ctv : Value), bindArgs (PySem.W.kla_fn "<lambda>" q params body scope cl pm cv ctv) ⟨[], []⟩ = pure [])
    (hbody : ∀ (A : Around) (outer : List Env) (s : Shared) (H : Hp) (E : XK) (f c' : Addr), Room k (A.deeper (LamX.lamEnv X scope s.heap.objs.size f c')) → JE (LamX.lamCx X A outer s H E scope f c') (fun cls d _ H => E cls d H) body m)
    (hg : Gl X x := by rfl) (hdef : defaultsOf params X.env = ([], []) := by rfl) (hdb : (x == ("__debug__" : Str)) = false := by decide) (hd : (a == ("__debug__" : Str)) = false := by decide) (hcd : (a == ("__classdict__" : Str)) = false := by decide) :
    JE X Wx (.Call (.Name x p) [.Lambda params body scope lpos] [] pos) (dMet hnd fine m) := by
  have hbi := F.bindsN hb
  obtain ⟨oc, od, dV, kV, doc, pm, an, cdv, ct, osl, e, lk, hcg, _, _⟩ := id F.ex
  subst e
  refine PE.imp (LamX.pe_lamcall (T := Tb0.T X.K) (t := fun E => tE X.K (fun cls d _ H => E cls d H) m) hg gm F.kp lk hcg hbi Sg hNg hva (hG cdv) TB hcode (by rw [hT]; exact List.mem_cons_self) (fun p hp _ => by rw [hT] at hp; cases List.mem_singleton.mp hp; rfl) hr L hdef hbind hbody hdb hd hcd) fun σ H Q ⟨W, F, ρ, S, R⟩ => ?_
  refine ⟨S.cfg.tb, fun H1 eN t1 => ⟨W, F, ρ, S.extN eN t1, ?_⟩⟩
  obtain ⟨r, ρ', er, q⟩ := R
  unfold dMet at er
  cases hm : m ρ with
  | none => rw [hm] at er; cases er
  | some z =>
    obtain ⟨rm, ρm⟩ := z
    rw [hm] at er
    cases rm with
    | ok y =>
      cases er
      exact ⟨.ok y, _, hm, fun F' H' S' s' v _ => q F' H' S' s' _ (.str fine)⟩
    | error y =>
      dsimp only at er
      cases hz : hnd y with
      | none => rw [hz] at er; cases er
      | some z =>
        rw [hz] at er
        cases er
        exact ⟨.error y, _, hm, fun F' H' cls dd S' s' ok => ⟨F', y, z, ok, S'.fh, hz, fun v dv => q F' H' S' s' v dv⟩⟩
end
end DL
end
section
set_option Elab.async false
set_option linter.all false
set_option maxRecDepth 100000
set_option maxHeartbeats 2000000
/-! DLM: except suites that return a text, a text with what the error keeps, what the error keeps. -/
namespace DL
open PySem PySem.Spec L2
open PyProof.Rows hiding St
variable [Tb0]
section
variable {X : Cx} {a : Addr} {oe : Obj} {cls : Value} {d : Option Addr} {pn : List (Addr × Obj)} {C f lit n : Str} {i j : Nat} {p1 p2 p3 p4 p5 p6 p7 : Pos}
def tsRep (K : PySem.W.Frag) (C f lit : Str) (i : Nat) : Addr → Value → Option Addr → TS := fun a cls d D τ G => ∃ F x t, ErOk K F G (.fl C f x) cls d ∧ Same F G ∧ reprP x = some t ∧ τ[i]? = some (some (.ref a)) ∧ lit.length + t.length ≤ 16777216 ∧ D.rt (.str (lit ++ t)) G
def tsLit (lit : Str) : Addr → Value → Option Addr → TS := fun _ _ _ D _ G => D.rt (.str lit) G
def tsFld (K : PySem.W.Frag) (C f : Str) (i : Nat) : Addr → Value → Option Addr → TS := fun a cls d D τ G => ∃ F x, ErOk K F G (.fl C f x) cls d ∧ Same F G ∧ τ[i]? = some (some (.ref a)) ∧ ∀ v, Dq K F v x → D.rt v G
theorem su_rep (T : XfC X.K (He.ga X.K C)) (hno : PySem.W.findIn X.K (.ref (He.ga X.K C)) f = some none) (hu : X.A.units + 64 < cLine) (hgd : X.A.guards = some []) (hz : Zc cls d oe) (hf : ∃ vs, oe.data = .fields vs) (hN : X.N[i]? = some n) (hv : Vis X.env.scope n) (hg : Gl X "repr") (hm : X.mg "repr" = none)
    (hd : (n == ("__debug__" : Str)) = false) (hcd : (n == ("__classdict__" : Str)) = false) (hs : starEach [.Attribute (.Name n p3) f p4] (X.suite a ((a, oe) :: pn)).env = (false, eval (.Attribute (.Name n p3) f p4) (X.suite a ((a, oe) :: pn)).env) :: starEach [] (X.suite a ((a, oe) :: pn)).env)
    (hb : attributeBase (.Name n p3) f (X.suite a ((a, oe) :: pn)).env (eval (.Name n p3) (X.suite a ((a, oe) :: pn)).env) = eval (.Name n p3) (X.suite a ((a, oe) :: pn)).env) :
    PSs (X.suite a ((a, oe) :: pn)) [.Return (some (.BinOp (.Constant (.str lit) j p1) .Add (.Call (.Name "repr" p2) [.Attribute (.Name n p3) f p4] [] p5) p6)) p7] (tsRep X.K C f lit i a cls d) := by
  have fld := pe_xf (pos := p4) (pn := pn) T hno hz hf (pe_var (X := X.suite a ((a, oe) :: pn)) (pos := p3) (i := i) hN hv hd hcd) hb
  have call := pe_callB (X := X.suite a ((a, oe) :: pn)) (p := p2) (pos := p5) (cr_repr (X := X.suite a ((a, oe) :: pn)) hu hgd) hg hm PyProof.Rows.boot_repr (pa_cons fld pa_nil hs) (he := hs)
  refine pss_one (PS.imp (ps_ret (pe_op op_add_str pe_str call)) fun D τ G ⟨F, x, t, ⟨e1, dd, v, e2, e3, e4⟩, sm, hr, hs', hl, q⟩ => ?_)
  unfold reprP at hr
  cases hp : toPy x with
  | none => rw [hp] at hr; cases hr
  | some p =>
    rw [hp] at hr
    dsimp only at hr
    by_cases c : reprOk p = true
    · rw [if_pos c] at hr
      cases hr
      exact ⟨_, hs', rfl, e1, dd, _, v, e2, e3, List.lookup_cons_self, v, p, rfl, Rq.dp sm (.inl e4) hp, c, lit, p.shown, rfl, rfl, by rw [sizeLine_eq]; exact hl, q⟩
    · rw [if_neg c] at hr; cases hr
theorem su_lit : PSs (X.suite a ((a, oe) :: pn)) [.Return (some (.Constant (.str lit) j p1)) p2] (tsLit lit a cls d) := pss_one (PS.imp (ps_ret pe_str) fun _ _ _ h => h)
theorem su_fld (T : XfC X.K (He.ga X.K C)) (hno : PySem.W.findIn X.K (.ref (He.ga X.K C)) f = some none) (hz : Zc cls d oe) (hf : ∃ vs, oe.data = .fields vs) (hN : X.N[i]? = some n) (hv : Vis X.env.scope n) (hd : (n == ("__debug__" : Str)) = false) (hcd : (n == ("__classdict__" : Str)) = false)
    (hb : attributeBase (.Name n p3) f (X.suite a ((a, oe) :: pn)).env (eval (.Name n p3) (X.suite a ((a, oe) :: pn)).env) = eval (.Name n p3) (X.suite a ((a, oe) :: pn)).env) :
    PSs (X.suite a ((a, oe) :: pn)) [.Return (some (.Attribute (.Name n p3) f p4)) p7] (tsFld X.K C f i a cls d) := by
  have fld := pe_xf (pos := p4) (pn := pn) T hno hz hf (pe_var (X := X.suite a ((a, oe) :: pn)) (pos := p3) (i := i) hN hv hd hcd) hb
  refine pss_one (PS.imp (ps_ret fld) fun D τ G ⟨F, x, ⟨e1, dd, v, e2, e3, e4⟩, sm, hs', q⟩ => ?_)
  exact ⟨_, hs', rfl, e1, dd, _, v, e2, e3, List.lookup_cons_self, q v e4⟩
end
/-! ### raise -/
/-- an own exception class that keeps one value -/
structure FlOk (P : Program) (w : World) (K : PySem.W.Frag) (mg : Str → Option Value) (base : Heap) (x f : Str) : Prop where
  ex : ∃ (bm : List Value) (B newId initId : String) (fd : FuncData) (slf prm : Str), FlC K (He.ga K x) f bm newId ∧ ExcBaseFacts B newId initId bm ∧ FnOk P w K mg base (L2.CX P w) 1 (He.ma K (He.ga K x) "__init__") fd [slf, prm] (spI (He.ga K x) f) ∧ Binds K fd [slf, prm] []
  gm : mg x = some (.ref (He.ga K x))
/-- an own exception class without an own __init__ -/
structure PlOk (K : PySem.W.Frag) (mg : Str → Option Value) (x : Str) : Prop where
  ex : ∃ (bm : List Value) (B newId initId : String), PySem.W.excIn K (He.ga K x) bm newId = true ∧ ExcBaseFacts B newId initId bm
  kp : PySem.W.keepIn K (.ref (He.ga K x)) = true
  sb : PySem.W.subIn K (.ref (He.ga K x)) (.type "BaseException") = some true
  ty : PySem.W.typeIn K (.ref (He.ga K x)) = some (.type "type")
  gm : mg x = some (.ref (He.ga K x))
section
variable {X : Cx} {Wx : WX} {x f : Str} {e : Expr} {g : M Hd} {p p2 pos pos2 : Pos} {m : Str} {j : Nat}
theorem js_raiseF (G : FlOk X.prog X.w X.K X.mg X.base x f) (hr : Room 2 X.A) (hc : X.calm = true) (tk : Takes X Wx) (he : JE X Wx e g) (hg : Gl X x := by rfl) (hdb : (x == ("__debug__" : Str)) = false := by decide) (hs : starEach [e] X.env = (false, eval e X.env) :: starEach [] X.env := by rfl) :
    JS X Wx (.Raise (some (.Call (.Name x p) [e] [] pos)) none pos2) (sRaiseF x f g) := by
  obtain ⟨⟨bm, B, newId, initId, fd, slf, prm, T, FB, F1, hb⟩, gm⟩ := G
  refine PS.imp (ps_raise hc tk (pmk_fl T FB F1 hr hb (passes_call tk fun _ _ _ _ z => z.elim) hg gm (pa_cons he pa_nil hs) hdb hs)) fun D σ H ⟨W, F, ρ, S, R⟩ => ⟨W, F, ρ, S, (SAt.ex (σ := σ) R).bcl.imp fun ρ1 h F1 H1 S1 s1 k v hv => ?_⟩
  obtain ⟨y, ρ2, F2, S2, s2, q, fl, ρ', e, fin⟩ := k S1 v hv
  cases e
  exact ⟨v, rfl, fun dx n => fin σ F2 _ _ _ (S2.alloc (Alloc.newO S2.fh n _)) (Same.refl _) ⟨rfl, dx, v, rfl, upd_same, q⟩⟩
theorem js_raiseP (G : PlOk X.K X.mg x) (hc : X.calm = true) (tk : Takes X Wx) (hg : Gl X x := by rfl) (hdb : (x == ("__debug__" : Str)) = false := by decide) :
    JS X Wx (.Raise (some (.Call (.Name x p) [.Constant (.str m) j p2] [] pos)) none pos2) (sRaiseP x) := by
  obtain ⟨⟨bm, B, newId, initId, q, FB⟩, kp, sb, ty, gm⟩ := G
  exact PS.imp (ps_raise hc tk (pmk_own FB q gm kp (raises_own sb ty) hg hdb)) fun D σ H ⟨W, F, ρ, S, fl, ρ', e, fin⟩ => by
    cases e
    exact fin σ F H _ _ S (Same.refl _) ⟨rfl, rfl⟩
end
section
variable {P : Program} {w : World} {K : PySem.W.Frag} {mg : Str → Option Value} {base : Heap}
theorem mkFl {x f slf prm qual : Str} {bm : List Value} {B newId initId : String} {params : Arguments} {scope : Scope} {p1 p2 p3 p4 : Pos} (T : flB K (He.ga K x) f bm newId = true) (FB : ExcBaseFacts B newId initId bm) (SF : StoreFacts B bm "object.__setattr__" "object") (gm : mg x = some (.ref (He.ga K x)))
    (hf : ∃ fd, FunD K "__init__" qual params [.Assign [.Attribute (.Name slf p1) f p2] (.Name prm p3) p4] scope [] [] (He.ma K (He.ga K x) "__init__") fd) (S : FnScope [slf, prm] [slf, prm] scope)
    (hb : ∀ (kV doc pm : Value) (an : Option Addr) (cdv ct : Value) (us : List Value), us.length = [slf, prm].length → bindArgs (PySem.W.fnOf "__init__" qual params [.Assign [.Attribute (.Name slf p1) f p2] (.Name prm p3) p4] scope .none kV doc pm an cdv ct) ⟨us, []⟩ = pure ([slf, prm].zip us))
    (h1 : (slf == ("__debug__" : Str)) = false := by decide) (h2 : (slf == ("__classdict__" : Str)) = false := by decide) (h3 : (prm == ("__debug__" : Str)) = false := by decide) (h4 : (prm == ("__classdict__" : Str)) = false := by decide) : FlOk P w K mg base x f := by
  obtain ⟨fd, F⟩ := hf
  exact ⟨⟨bm, B, newId, initId, fd, slf, prm, flB_ok T, FB, fl_init (flB_ok T) SF F S h1 h2 h3 h4, F.bindsN hb⟩, gm⟩
def plB (K : PySem.W.Frag) (C : Addr) (bm : List Value) (newId : String) : Bool := PySem.W.excIn K C bm newId && (PySem.W.keepIn K (.ref C) && (decide (PySem.W.subIn K (.ref C) (.type "BaseException") = some true) && decide (PySem.W.typeIn K (.ref C) = some (.type "type"))))
theorem mkPl {x : Str} {bm : List Value} {B newId initId : String} (T : plB K (He.ga K x) bm newId = true) (FB : ExcBaseFacts B newId initId bm) (gm : mg x = some (.ref (He.ga K x))) : PlOk K mg x := by
  unfold plB at T
  obtain ⟨h1, T⟩ := He.ba T
  obtain ⟨h2, T⟩ := He.ba T
  obtain ⟨h3, h4⟩ := He.ba T
  exact ⟨⟨bm, B, newId, initId, h1, FB⟩, h2, of_decide_eq_true h3, of_decide_eq_true h4, gm⟩
end
end DL
end
section
set_option Elab.async false
set_option linter.all false
set_option maxRecDepth 100000
set_option maxHeartbeats 2000000
/-! DLW: the end of a law whose defs make lambdas: called where nothing is being shown. -/
namespace DL
open PySem PySem.Spec L2
open PyProof.Rows hiding St
variable [Tb0]
/-- what stands at the law's call: the script, the tables -/
structure AtCall (H : Hp) (a : Addr) (cs : List (Addr × Addr)) (h : Heap) (K : PySem.W.Frag) : Prop where
  tab : ∀ p ∈ cs, H p.2 = some (.tbl #[])
  kind : ∀ b, H b = none ∨ b ∈ cs.map (·.2) ∨ ∃ o xs, H b = some (.frz o (.lst xs))
  few : ∀ b, H b ≠ none → b = a ∨ b ∈ cs.map (·.2)
  out : H a ≠ none → K.lookup a = none
section
variable {P : Program} {w : World} {K : PySem.W.Frag} {mg mb : Str → Option Value} {k : Nat} {fa a : Addr} {cs : List (Addr × Addr)} {fd : FuncData} {x : Str} {sp : Sp} {t : Shared} {us : List Value} {ns : List Int}
/-- the call at such a heap -/
theorem call_at {H : Hp} (KX : K.In t.heap) (hns : t.heap.Ns mainGlobals mg) (hb : t.heap.Ns builtinsNs mb) (hbb : ∀ x : Str, x ≠ "__name__" → mb x = bootBuiltins x) (hlim : t.heap.NoLimit) (hg : t.gens = #[])
    (hT : ∀ p ∈ cs, t.heap.get? p.2 = some { cls := .none, data := .fields #[] }) (nT : ∀ p ∈ cs, K.lookup p.2 = none) (hC : ∀ p ∈ cs, PySem.W.codeHdIn K p.1 p.2 = true)
    (hbm : ∃ (bm : Addr) (ob : Obj), mg "__builtins__" = some (.ref bm) ∧ bm ≠ builtinsNs ∧ t.heap.get? bm = some ob ∧ ob.cls = .type "module" ∧ ob.dict = some builtinsNs ∧ ob.data = .plain)
    (ha : t.heap.get? a = some { cls := .type "list", data := .seq us.toArray }) (A : AtCall H a cs t.heap K) (hok : HOk P w H t.heap) (hr : Room k callerA)
    (F : ∀ base : Heap, K.In base → base.Ns mainGlobals mg → (∀ p ∈ cs, LamX.TabB base mg p.1 p.2) → FnG P w K mg base k fa fd [x] sp) (hbind : ∀ (s : Shared) (u : Value), BindsTo s fd ⟨[u], []⟩ [(x, u)])
    (hsp : sp [.ref a] H (fun v _ => v = .bl true) fun _ _ _ => False) :
    codeAny (model P w) callerA (.call (.ref fa) ⟨[.ref a], []⟩) (fun r s' => r = .ok (.ret (.bool true)) ∧ OldK t.heap s'.heap ∧ s'.os = t.os ∧ AllBare s'.gens) t := by
  have two : ∀ {b : Addr}, H b ≠ none → t.heap.get? b = some { cls := .type "list", data := .seq us.toArray } ∨ t.heap.get? b = some { cls := .none, data := .fields #[] } := fun {b} n => by
    rcases A.few b n with e | e
    · exact .inl (e ▸ ha)
    · obtain ⟨p, hp, ep⟩ := List.mem_map.mp e
      exact .inr (ep ▸ hT p hp)
  have free : ∀ {b : Addr} {o : Obj}, t.heap.get? b = some o → (∀ v n, o.data ≠ .seq v n) → o.data ≠ .fields #[] → H b = none := fun {b o} e n1 n2 => by
    cases q : H b with
    | none => rfl
    | some u =>
      rcases two (b := b) (by rw [q]; exact fun z => nomatch z) with z | z
      · rw [e] at z; cases z; exact absurd rfl (n1 _ _)
      · rw [e] at z; cases z; exact absurd rfl n2
  have dictFree : ∀ {b : Addr} {o : Obj} {es : Array DictEntry} {ep : Nat}, t.heap.get? b = some o → o.data = .dict es ep → H b = none := fun {b o es ep} e d => free e (fun v n z => by rw [d] at z; cases z) fun z => by rw [d] at z; cases z
  have keepNs : ∀ {b : Addr} {m : Str → Option Value}, t.heap.Ns b m → (hidT t.heap H).Ns b m := fun ⟨o, es, ep, e, d, r⟩ => ⟨o, es, ep, hidT_get e (dictFree e d), d, r⟩
  have inK : K.In (hidT t.heap H) := fun b o e => hidT_get (KX b o e) (by
    cases q : H b with
    | none => rfl
    | some u =>
      have n : H b ≠ none := by rw [q]; exact fun z => nomatch z
      rcases A.few b n with z | z
      · subst z; rw [A.out n] at e; cases e
      · obtain ⟨p, hp, ep⟩ := List.mem_map.mp z
        rw [← ep, nT p hp] at e; cases e)
  have M : L2.Mod K mg (hidT t.heap H) := ⟨inK, keepNs hns, ⟨mb, keepNs hb, hbb⟩, let ⟨mc, h1, h2⟩ := hlim; ⟨mc, keepNs h1, h2⟩⟩
  have TB : ∀ p ∈ cs, LamX.TabB (hidT t.heap H) mg p.1 p.2 := fun p hp => by
    have hTp := hT p hp
    obtain ⟨bm, ob, b1, b2, b3, b4, b5, b6⟩ := hbm
    have gl : mainGlobals ≠ p.2 := fun z => by
      obtain ⟨o, es, ep, e, hd, _⟩ := hns
      rw [z, hTp] at e; cases e; cases hd
    refine ⟨PySem.W.codeHd_of_K inK (hC p hp), ⟨bm, ob, b1, b2, fun z => ?_, fun z => ?_, hidT_get b3 (free b3 (fun v n z => by rw [b6] at z; cases z) fun z => by rw [b6] at z; cases z), b4, b5, b6⟩, gl⟩
    · obtain ⟨o, es, ep, e, hd, _⟩ := hns
      rw [z, e] at b3; cases b3; rw [hd] at b6; cases b6
    · rw [z, hTp] at b3; cases b3; cases b6
  have env : Env0 P w K mg (hidT t.heap H) callerA [] t H := ⟨rfl, M, fun b o e => of_hidT e, Nat.le_of_eq (hidT_size _ _), trivial, (fun b hb => nomatch hb), hok, .of_eq hg⟩
  refine codeAny_mono ((F _ inK (keepNs hns) TB).run callerA [] t H ⟨[.ref a], []⟩ [.ref a] [.ref a] _ _ rfl hr env (hbind t (.ref a)) (.cons rfl .nil) hsp) fun r s' h => ?_
  match r, h with
  | .error e, h => obtain ⟨_, _, _, _, _, _, _, _, _, _, _, _, h⟩ := h; exact h.elim
  | .ok .next, h => exact h.elim
  | .ok .brk, h => exact h.elim
  | .ok .cont, h => exact h.elim
  | .ok (.ret u), h =>
    obtain ⟨v, H', os, bare, un, hok', ru, q⟩ := h
    have q : v = .bl true := q
    subst q
    obtain rfl : u = Value.bool true := ru
    have same : ∀ b o, b ∉ cs.map (·.2) → t.heap.get? b = some o → s'.heap.get? b = some o := fun b o nb e => by
      cases z : H b with
      | none => exact un.keep b o e z (fun y => nomatch y) fun y => nomatch y
      | some u =>
        rcases A.kind b with y | y | ⟨ob, xs, y⟩
        · rw [z] at y; cases y
        · exact absurd y nb
        · have g1 := (hok b _ y).1
          have g2 := (hok' b _ (un.frzs b ob _ y)).1
          rw [e] at g1; cases g1
          exact g2
    have more : ∀ p ∈ cs, ∃ zs : Array Value, s'.heap.get? p.2 = some { cls := .none, data := .fields zs } := fun p hp => let ⟨zs, y⟩ := un.tbls p.2 #[] (A.tab p hp); ⟨_, hok' p.2 _ y⟩
    refine ⟨rfl, ⟨fun b o e => ?_, fun b o e => ?_⟩, os, bare⟩
    · by_cases hb : b ∈ cs.map (·.2)
      · obtain ⟨p, hp, ep⟩ := List.mem_map.mp hb
        subst ep
        obtain ⟨zs, hz⟩ := more p hp
        rw [hT p hp] at e
        cases e
        exact .inr (.inl ⟨((PySem.W.codeHd_of_K KX (hC p hp)).tab (hT p hp)).isCodeTable, rfl, #[], zs, rfl, hz.trans (by rw [Array.empty_append])⟩)
      · exact .inl (same b o hb e)
    · by_cases hb : b ∈ cs.map (·.2)
      · obtain ⟨p, hp, ep⟩ := List.mem_map.mp hb
        subst ep
        obtain ⟨zs, hz⟩ := more p hp
        exact ⟨_, hz⟩
      · exact ⟨o, same b o hb e⟩
/-- the heap of the call: the script (where it is none of the module's things), the tables -/
def scrH (K : PySem.W.Frag) (cs : List (Addr × Addr)) (a : Addr) (us : List Value) (ns : List Int) : Hp := fun b =>
  if b ∈ cs.map (·.2) then some (.tbl #[]) else if b = a ∧ K.lookup a = none then some (.frz { cls := .type "list", data := .seq us.toArray } (.lst (ns.map V.int))) else none
theorem scr_at (hT : ∀ p ∈ cs, t.heap.get? p.2 = some { cls := .none, data := .fields #[] }) (ha : t.heap.get? a = some { cls := .type "list", data := .seq us.toArray }) : a ∉ cs.map (·.2) ∧ AtCall (scrH K cs a us ns) a cs t.heap K := by
  have aT : a ∉ cs.map (·.2) := fun z => by
    obtain ⟨p, hp, ep⟩ := List.mem_map.mp z
    have e := hT p hp
    rw [ep, ha] at e
    cases e
  refine ⟨aT, ⟨fun p hp => if_pos (List.mem_map.mpr ⟨p, hp, rfl⟩), fun b => ?_, fun b z => ?_, fun z => ?_⟩⟩
  · unfold scrH
    by_cases hb : b ∈ cs.map (·.2)
    · exact .inr (.inl hb)
    · rw [if_neg hb]
      by_cases h2 : b = a ∧ K.lookup a = none
      · rw [if_pos h2]; exact .inr (.inr ⟨_, _, rfl⟩)
      · rw [if_neg h2]; exact .inl rfl
  · unfold scrH at z
    by_cases hb : b ∈ cs.map (·.2)
    · exact .inr hb
    · rw [if_neg hb] at z
      by_cases h2 : b = a ∧ K.lookup a = none
      · exact .inl h2.1
      · rw [if_neg h2] at z; exact absurd rfl z
  · unfold scrH at z
    rw [if_neg aT] at z
    by_cases h2 : a = a ∧ K.lookup a = none
    · exact h2.2
    · rw [if_neg h2] at z; exact absurd rfl z
end
/-- the walk's end: a law of guarded defs and tables -/
theorem walk_ofT {l : PySem.W.OpenLaw} {n k : Nat} {q : Program} {loose : List Str} {XP : (Str → Option Value) → Heap → Prop} {YP : World → Heap → Prop} {d : DefRec} {x : Str}
    (hn : l.most = some n) (hn2 : n ≤ sizeLine) (hdf : d.params.defaults = []) (hr : Room k callerA)
    (F : ∀ (w : World) (mg : Str → Option Value) (fa : Addr) (h : Heap), YP w h → h.Ns mainGlobals mg → mg d.name = some (.ref fa) →
      ∃ (K : PySem.W.Frag) (fd : FuncData) (cs : List (Addr × Addr)) (c : Con), K.In h ∧ (∀ (s : Shared) (u : Value), BindsTo s fd ⟨[u], []⟩ [(x, u)]) ∧ (∀ p ∈ cs, h.get? p.2 = some { cls := .none, data := .fields #[] }) ∧ (∀ p ∈ cs, K.lookup p.2 = none) ∧ (∀ p ∈ cs, PySem.W.codeHdIn K p.1 p.2 = true) ∧
        (∀ p ∈ Tb0.T K, p.1 ∈ cs.map (·.2)) ∧ (∀ ns : List Int, ns.length ≤ n → c [.d (.scr ns)] = some (.ok (.d (.bl true)), [])) ∧
        ∀ base : Heap, K.In base → base.Ns mainGlobals mg → (∀ p ∈ cs, LamX.TabB base mg p.1 p.2) → FnG l.prog w K mg base k fa fd [x] (spC K 1 c)) :
    PySem.W.WalkO q loose XP YP l.row.toRowW d [] (fun f vs => PySem.call f vs) := by
  refine Att.attach_call hn hdf fun w s₀ t mg mb fa o pm cd doc a us ns G Y ho hd hcd hmg hobj hints hlen hg => ?_
  obtain ⟨K, fd, cs, c, KX, hb, hT, nT, hC, hTb, hc, hF⟩ := F w mg fa _ Y G.T.g hmg
  obtain ⟨aT, A⟩ := scr_at (K := K) (ns := ns) hT hobj
  have rv := vals_ints hints
  have lens : us.length = ns.length := by rw [← rv.length, List.length_map]
  have small : ns.length ≤ sizeLine := Nat.le_trans hlen hn2
  have frozen : ∀ {b : Addr} {o : Obj} {xs : List V}, scrH K cs a us ns b = some (.frz o (.lst xs)) → b = a ∧ o = { cls := .type "list", data := .seq us.toArray } ∧ xs = ns.map V.int := fun {b o xs} z => by
    unfold scrH at z
    by_cases h1 : b ∈ cs.map (·.2)
    · rw [if_pos h1] at z; cases z
    · rw [if_neg h1] at z
      by_cases h2 : b = a ∧ K.lookup a = none
      · rw [if_pos h2] at z; cases z; exact ⟨h2.1, rfl, rfl⟩
      · rw [if_neg h2] at z; cases z
  refine call_at (H := scrH K cs a us ns) KX G.T.g G.T.b G.T.builtins G.T.nolimit hg hT nT hC G.T.bmain hobj A (fun b u z => ?_) hr hF hb ?_
  · rcases A.kind b with y | y | ⟨ob, xs, y⟩
    · rw [z] at y; cases y
    · obtain ⟨p, hp, ep⟩ := List.mem_map.mp y
      have e := A.tab p hp
      rw [ep, z] at e
      cases e
      rw [← ep]
      exact hT p hp
    · obtain ⟨e1, e2, e3⟩ := frozen y
      subst e1 e2 e3
      rw [z] at y
      cases y
      exact ⟨hobj, by rw [List.length_map]; exact small, us, _, rv, hobj⟩
  · have scr : SqL K (noT (scrH K cs a us ns)) a (ns.map V.int) := by
      cases hk : K.lookup a with
      | some o =>
        have e := KX a o hk
        rw [hobj] at e
        cases e
        exact .inr ⟨_, us.toArray, _, hk, rfl, rfl, rfl, by rw [List.size_toArray, lens]; exact small, by simpa using rv⟩
      | none => exact .inl (.inr ⟨_, noT_of (show scrH K cs a us ns a = _ from (if_neg aT).trans (if_pos ⟨rfl, hk⟩)) fun _ z => nomatch z⟩)
    refine ⟨rfl, noT (scrH K cs a us ns), [.d (.scr ns)], ⟨fun b o z => (noT_some z).1, fun p hp => LamX.TabS.nil ?_, fun b ps z => (noT_some z).2 ps rfl⟩, .cons (.scr scr) .nil, List.nodup_nil, _, _, hc ns hlen, fun F' H' _ v hv => by cases hv; rfl⟩
    obtain ⟨p', hp', ep⟩ := List.mem_map.mp (hTb p hp)
    rw [← ep]
    exact A.tab p' hp'
end DL
end
section
/-! DLN: no tables: a program whose defs make no lambdas. -/
namespace DL
instance (priority := low) noTb : Tb0 := ⟨fun _ => []⟩
end DL
end
section
set_option linter.all false
/-! PN: sets of numbers that come round, in plain Lean. -/
namespace SetN
/-- f has the period p from s on -/
def EP (f : Nat → Bool) (s p : Nat) : Prop := 1 ≤ p ∧ ∀ n, s ≤ n → f (n + p) = f n
variable {f g : Nat → Bool} {s s' t p p' q d : Nat}
theorem EP.mul (h : EP f s p) : ∀ (k : Nat) {n : Nat}, s ≤ n → f (n + k * p) = f n
  | 0, n, _ => by rw [Nat.zero_mul, Nat.add_zero]
  | k + 1, n, hn => by
    rw [Nat.succ_mul, ← Nat.add_assoc, h.2 _ (by omega), EP.mul h k hn]
theorem EP.weak (h : EP f s p) (hs : s ≤ s') : EP f s' p := ⟨h.1, fun n hn => h.2 n (by omega)⟩
theorem EP.pull (h : EP f s p) (g : EP f s' d) : EP f s d := ⟨g.1, fun n hn => by
  have h1 := h.1
  have e1 : f (n + d + s' * p) = f (n + d) := h.mul s' (by omega)
  have e2 : f (n + s' * p) = f n := h.mul s' hn
  have le : s' ≤ s' * p := Nat.le_mul_of_pos_right _ h1
  have e3 : f (n + s' * p + d) = f (n + s' * p) := g.2 _ (by omega)
  have e4 : n + d + s' * p = n + s' * p + d := by omega
  rw [← e1, e4, e3, e2]⟩
theorem EP.mod (h : EP f s p) {n : Nat} (hn : s ≤ n) : f (s + (n - s) % p) = f n := by
  have e : n = s + (n - s) % p + (n - s) / p * p := by
    have := Nat.div_add_mod (n - s) p
    rw [Nat.mul_comm] at this
    omega
  rw [← h.mul ((n - s) / p) (n := s + (n - s) % p) (by omega), ← e]
theorem EP.times (h : EP f s p) {k : Nat} (hk : 1 ≤ k) : EP f s (k * p) := ⟨Nat.mul_pos hk h.1, fun n hn => h.mul k hn⟩
theorem EP.congr (h : EP f s p) (e : ∀ n, g n = f n) : EP g s p := ⟨h.1, fun n hn => by rw [e, e, h.2 n hn]⟩
/-- t, q: the least ones -/
structure Can (f : Nat → Bool) (t q : Nat) : Prop where
  ep : EP f t q
  lp : ∀ s p, EP f s p → q ≤ p
  ls : ∀ s p, EP f s p → t ≤ s
theorem Can.uniq {t' q' : Nat} (a : Can f t q) (b : Can f t' q') : t = t' ∧ q = q' :=
  ⟨Nat.le_antisymm (a.ls _ _ b.ep) (b.ls _ _ a.ep), Nat.le_antisymm (a.lp _ _ b.ep) (b.lp _ _ a.ep)⟩
theorem Can.dvd (a : Can f t q) (h : EP f s p) : q ∣ p := by
  have hq : EP f s q := h.pull a.ep
  by_cases r : p % q = 0
  · exact Nat.dvd_of_mod_eq_zero r
  · have hr : EP f s (p % q) := ⟨by omega, fun n hn => by
      have e : n + p = n + p % q + p / q * q := by
        have := Nat.div_add_mod p q
        rw [Nat.mul_comm] at this
        omega
      have e1 : f (n + p % q + p / q * q) = f (n + p % q) := hq.mul _ (by omega)
      rw [← e1, ← e, h.2 n hn]⟩
    have h1 := a.lp _ _ hr
    have h2 := Nat.mod_lt p (show q > 0 from hq.1)
    omega
theorem can_of (ep : EP f t q) (lp : ∀ s p, EP f s p → q ≤ p) (w : t = 0 ∨ f (t - 1) ≠ f (t - 1 + q)) : Can f t q := ⟨ep, lp, fun s p h => by
  rcases w with w | w
  · omega
  · by_cases c : t ≤ s
    · exact c
    · exact absurd ((h.pull ep).2 (t - 1) (by omega)).symm w⟩
theorem exists_min {P : Nat → Prop} (h : ∃ n, P n) : ∃ n, P n ∧ ∀ m, P m → n ≤ m := by
  obtain ⟨n, hn⟩ := h
  induction n using Nat.strongRecOn with
  | ind n ih =>
    by_cases c : ∃ m, m < n ∧ P m
    · obtain ⟨m, h1, h2⟩ := c
      exact ih m h1 h2
    · exact ⟨n, hn, fun m hm => Nat.le_of_not_lt fun lt => c ⟨m, lt, hm⟩⟩
theorem can_exists (h : EP f s p) : ∃ t q, Can f t q := by
  obtain ⟨q, ⟨s1, h1⟩, h2⟩ := exists_min (P := fun q => ∃ s, EP f s q) ⟨p, s, h⟩
  obtain ⟨t, h3, h4⟩ := exists_min (P := fun t => EP f t q) ⟨s1, h1⟩
  exact ⟨t, q, h3, fun s p e => h2 p ⟨s, e⟩, fun s p e => h4 s (e.pull h3)⟩
/-- a divisor of a period, tried over one turn -/
theorem per_iff (h : EP f s p) (hd : 1 ≤ d) (dv : d ∣ p) : (∀ a, s ≤ a → a + d < s + p → f a = f (a + d)) ↔ EP f s d := by
  constructor
  · intro w
    have step : ∀ k r, r + k * d < p → f (s + r + k * d) = f (s + r) := by
      intro k
      induction k with
      | zero => intro r _; rw [Nat.zero_mul, Nat.add_zero]
      | succ k ih =>
        intro r hr
        rw [Nat.succ_mul] at hr ⊢
        rw [← Nat.add_assoc, ← w (s + r + k * d) (by omega) (by omega), ih r (by omega)]
    refine ⟨hd, fun n hn => ?_⟩
    have hp := h.1
    have lt := Nat.mod_lt (n - s) (show p > 0 from hp)
    have e0 : f n = f (s + (n - s) % p) := (h.mod hn).symm
    have e1 : f (n + d) = f (s + (n - s) % p + d) := by
      have en : n + d = s + (n - s) % p + d + (n - s) / p * p := by
        have := Nat.div_add_mod (n - s) p
        rw [Nat.mul_comm] at this
        omega
      rw [en, h.mul _ (by omega)]
    rw [e0, e1]
    generalize (n - s) % p = r at lt
    by_cases c : r + d < p
    · exact (w (s + r) (by omega) (by omega)).symm
    · obtain ⟨k, hk⟩ := dv
      have hk1 : 1 ≤ k := by
        rcases Nat.eq_zero_or_pos k with z | z
        · rw [z, Nat.mul_zero] at hk; omega
        · exact z
      obtain ⟨j, rfl⟩ : ∃ j, k = j + 1 := ⟨k - 1, by omega⟩
      have hk2 : p = j * d + d := by rw [hk, Nat.mul_comm, Nat.succ_mul]
      have e2 : s + r + d = s + (r + d - p) + p := by omega
      rw [e2, h.2 _ (by omega)]
      have e3 := step j (r + d - p) (by omega)
      rw [← e3]
      congr 1
      omega
  · intro e a ha _
    exact (e.2 a ha).symm
def back (f : Nat → Bool) (q : Nat) : Nat → Nat
  | 0 => 0
  | n + 1 => if f n = f (n + q) then back f q n else n + 1
theorem back_ep : ∀ {s : Nat}, EP f s q → EP f (back f q s) q
  | 0, h => h
  | n + 1, h => by
    unfold back
    by_cases c : f n = f (n + q)
    · rw [if_pos c]
      refine back_ep ⟨h.1, fun m hm => ?_⟩
      by_cases e : m = n
      · rw [e]; exact c.symm
      · exact h.2 m (by omega)
    · rw [if_neg c]; exact h
theorem back_le : ∀ {s : Nat}, back f q s ≤ s
  | 0 => Nat.le_refl _
  | n + 1 => by
    unfold back
    by_cases c : f n = f (n + q)
    · rw [if_pos c]; exact Nat.le_succ_of_le back_le
    · rw [if_neg c]; exact Nat.le_refl _
theorem back_w : ∀ {s : Nat}, back f q s = 0 ∨ f (back f q s - 1) ≠ f (back f q s - 1 + q)
  | 0 => .inl rfl
  | n + 1 => by
    unfold back
    by_cases c : f n = f (n + q)
    · rw [if_pos c]; exact back_w
    · rw [if_neg c]; exact .inr c
theorem can_back (h : EP f s q) (lp : ∀ s p, EP f s p → q ≤ p) : Can f (back f q s) q := can_of (back_ep h) lp back_w
/-- the first divisor that is a period -/
theorem least_of (h : EP f s p) (hd : EP f s d) (hl : ∀ c, 1 ≤ c → c < d → c ∣ p → ¬ EP f s c) : ∀ s' p', EP f s' p' → d ≤ p' := by
  intro s' p' h'
  obtain ⟨t, q, c⟩ := can_exists h
  have hq := h.pull c.ep
  have : d ≤ q := Nat.le_of_not_lt fun lt => hl q hq.1 lt (c.dvd h) hq
  exact Nat.le_trans this (c.lp _ _ h')
/-- no member from s on -/
theorem can_fin (h : ∀ n, s ≤ n → f n = false) : ∃ t, t ≤ s ∧ Can f t 1 ∧ (∀ n, t ≤ n → f n = false) ∧ (t = 0 ∨ f (t - 1) = true) := by
  have e : EP f s 1 := ⟨Nat.le_refl _, fun n hn => by rw [h n hn, h (n + 1) (by omega)]⟩
  refine ⟨back f 1 s, back_le, can_back e fun s' p' h' => h'.1, fun n hn => ?_, ?_⟩
  · have z := (back_ep e).mul s hn
    rw [← z]
    exact h _ (by omega)
  · by_cases c : back f 1 s = 0
    · exact .inl c
    · have z := (back_w (f := f) (q := 1) (s := s)).resolve_left c
      refine .inr ?_
      have e1 := (back_ep e).mul s (n := back f 1 s - 1 + 1) (by omega)
      have e2 : f (back f 1 s - 1 + 1) = false := by rw [← e1]; exact h _ (by omega)
      rw [e2] at z
      simpa using z
end SetN
end
section
set_option linter.all false
/-! PN2: unions, cuts, moved sets, sums of sets of numbers. -/
namespace SetN
variable {f g h : Nat → Bool} {s s' t p q : Nat}
def orF (f g : Nat → Bool) : Nat → Bool := fun n => f n || g n
def anF (f g : Nat → Bool) : Nat → Bool := fun n => f n && g n
def shF (f : Nat → Bool) (k : Nat) : Nat → Bool := fun n => decide (k ≤ n) && f (n - k)
def smF (f g : Nat → Bool) : Nat → Bool := fun n => (List.range (n + 1)).any fun a => f a && g (n - a)
theorem smF_iff {n : Nat} : smF f g n = true ↔ ∃ a b, f a = true ∧ g b = true ∧ a + b = n := by
  unfold smF
  rw [List.any_eq_true]
  constructor
  · rintro ⟨a, h1, h2⟩
    have h1 := List.mem_range.mp h1
    obtain ⟨h3, h4⟩ := Bool.and_eq_true_iff.mp h2
    exact ⟨a, n - a, h3, h4, by omega⟩
  · rintro ⟨a, b, h1, h2, rfl⟩
    exact ⟨a, List.mem_range.mpr (by omega), by rw [h1, Nat.add_sub_cancel_left, h2] <;> rfl⟩
theorem shF_iff {k n : Nat} : shF f k n = true ↔ ∃ a, f a = true ∧ a + k = n := by
  unfold shF
  rw [Bool.and_eq_true, decide_eq_true_iff]
  constructor
  · rintro ⟨h1, h2⟩
    exact ⟨_, h2, by omega⟩
  · rintro ⟨a, h1, rfl⟩
    exact ⟨by omega, by rw [Nat.add_sub_cancel]; exact h1⟩
theorem fext (h : ∀ n, f n = true ↔ g n = true) : f = g := funext fun n => Bool.eq_iff_iff.mpr (h n)
theorem EP.or (a : EP f s p) (b : EP g s p) : EP (orF f g) s p := ⟨a.1, fun n hn => by unfold orF; rw [a.2 n hn, b.2 n hn]⟩
theorem EP.an (a : EP f s p) (b : EP g s p) : EP (anF f g) s p := ⟨a.1, fun n hn => by unfold anF; rw [a.2 n hn, b.2 n hn]⟩
theorem EP.sh (a : EP f s p) (k : Nat) : EP (shF f k) (s + k) p := ⟨a.1, fun n hn => by
  unfold shF
  have e1 : n + p - k = n - k + p := by omega
  rw [decide_eq_true (show k ≤ n + p by omega), decide_eq_true (show k ≤ n by omega), e1, a.2 (n - k) (by omega)]⟩
theorem EP.sm (a : EP f s p) (b : EP g t p) : EP (smF f g) (s + t + p) p := ⟨a.1, fun n hn => by
  rw [Bool.eq_iff_iff, smF_iff, smF_iff]
  constructor
  · rintro ⟨x, y, h1, h2, e⟩
    by_cases c : s + p ≤ x
    · exact ⟨x - p, y, by rw [← a.2 (x - p) (by omega), Nat.sub_add_cancel (by omega)]; exact h1, h2, by omega⟩
    · exact ⟨x, y - p, h1, by rw [← b.2 (y - p) (by omega), Nat.sub_add_cancel (by omega)]; exact h2, by omega⟩
  · rintro ⟨x, y, h1, h2, e⟩
    by_cases c : s ≤ x
    · exact ⟨x + p, y, by rw [a.2 x c]; exact h1, h2, by omega⟩
    · exact ⟨x, y + p, h1, by rw [b.2 y (by omega)]; exact h2, by omega⟩⟩
/-- a period told by a common multiple -/
theorem EP.up (a : EP f s p) (h1 : s ≤ t) (h2 : 1 ≤ q) (h3 : p ∣ q) : EP f t q := by
  obtain ⟨k, rfl⟩ := h3
  have : 1 ≤ k := by
    rcases Nat.eq_zero_or_pos k with z | z
    · rw [z, Nat.mul_zero] at h2; omega
    · exact z
  rw [Nat.mul_comm]
  exact (a.weak h1).times this
theorem EP.orL (a : EP f s p) (b : EP g t q) : EP (orF f g) (max s t) (Nat.lcm p q) :=
  have l : 1 ≤ Nat.lcm p q := Nat.lcm_pos a.1 b.1
  (a.up (Nat.le_max_left _ _) l (Nat.dvd_lcm_left _ _)).or (b.up (Nat.le_max_right _ _) l (Nat.dvd_lcm_right _ _))
theorem EP.anL (a : EP f s p) (b : EP g t q) : EP (anF f g) (max s t) (Nat.lcm p q) :=
  have l : 1 ≤ Nat.lcm p q := Nat.lcm_pos a.1 b.1
  (a.up (Nat.le_max_left _ _) l (Nat.dvd_lcm_left _ _)).an (b.up (Nat.le_max_right _ _) l (Nat.dvd_lcm_right _ _))
theorem EP.smL (a : EP f s p) (b : EP g t q) : EP (smF f g) (s + t + Nat.lcm p q) (Nat.lcm p q) :=
  have l : 1 ≤ Nat.lcm p q := Nat.lcm_pos a.1 b.1
  (a.up (Nat.le_refl _) l (Nat.dvd_lcm_left _ _)).sm (b.up (Nat.le_refl _) l (Nat.dvd_lcm_right _ _))
def noF : Nat → Bool := fun _ => false
/-! rules -/
theorem orF_comm (f g : Nat → Bool) : orF f g = orF g f := funext fun n => Bool.or_comm _ _
theorem anF_comm (f g : Nat → Bool) : anF f g = anF g f := funext fun n => Bool.and_comm _ _
theorem smF_comm (f g : Nat → Bool) : smF f g = smF g f := fext fun n => by
  rw [smF_iff, smF_iff]
  constructor <;> (rintro ⟨a, b, h1, h2, e⟩; exact ⟨b, a, h2, h1, by omega⟩)
theorem orF_self (f : Nat → Bool) : orF f f = f := funext fun n => Bool.or_self _
theorem anF_self (f : Nat → Bool) : anF f f = f := funext fun n => Bool.and_self _
theorem an_or (f g : Nat → Bool) : anF f (orF f g) = f := funext fun n => by show _ = _; simp only [anF, orF]; cases f n <;> cases g n <;> rfl
theorem or_an (f g : Nat → Bool) : orF f (anF f g) = f := funext fun n => by show _ = _; simp only [anF, orF]; cases f n <;> cases g n <;> rfl
theorem in_1 (f g : Nat → Bool) : anF (anF f g) (orF f g) = anF f g := funext fun n => by show _ = _; simp only [anF, orF]; cases f n <;> cases g n <;> rfl
theorem in_2 (f g : Nat → Bool) : orF (anF f g) (orF f g) = orF f g := funext fun n => by show _ = _; simp only [anF, orF]; cases f n <;> cases g n <;> rfl
theorem an_or_iff (f g : Nat → Bool) : anF f g = f ↔ orF f g = g := by
  constructor
  · intro h; rw [← h]; exact funext fun n => by show _ = _; simp only [anF, orF]; cases f n <;> cases g n <;> rfl
  · intro h; rw [← h]; exact funext fun n => by show _ = _; simp only [anF, orF]; cases f n <;> cases g n <;> rfl
theorem or_no (f : Nat → Bool) : orF noF f = f := funext fun n => rfl
theorem or_no' (f : Nat → Bool) : orF f noF = f := funext fun n => Bool.or_false _
theorem an_no (f : Nat → Bool) : anF f noF = noF := funext fun n => Bool.and_false _
theorem sm_no (f : Nat → Bool) : smF f noF = noF := fext fun n => by
  rw [smF_iff]
  constructor
  · rintro ⟨a, b, _, h2, _⟩; exact h2
  · intro h; cases h
theorem no_sm (f : Nat → Bool) : smF noF f = noF := by rw [smF_comm, sm_no]
theorem orF_as (f g h : Nat → Bool) : orF (orF f g) h = orF f (orF g h) := funext fun n => Bool.or_assoc _ _ _
theorem anF_as (f g h : Nat → Bool) : anF (anF f g) h = anF f (anF g h) := funext fun n => Bool.and_assoc _ _ _
theorem smF_as (f g h : Nat → Bool) : smF (smF f g) h = smF f (smF g h) := fext fun n => by
  rw [smF_iff, smF_iff]
  constructor
  · rintro ⟨a, b, h1, h2, e⟩
    obtain ⟨c, d, h3, h4, e2⟩ := smF_iff.mp h1
    exact ⟨c, d + b, h3, smF_iff.mpr ⟨d, b, h4, h2, rfl⟩, by omega⟩
  · rintro ⟨a, b, h1, h2, e⟩
    obtain ⟨c, d, h3, h4, e2⟩ := smF_iff.mp h2
    exact ⟨a + c, d, smF_iff.mpr ⟨a, c, h1, h3, rfl⟩, h4, by omega⟩
theorem an_orD (f g h : Nat → Bool) : anF f (orF g h) = orF (anF f g) (anF f h) := funext fun n => Bool.and_or_distrib_left _ _ _
theorem or_anD (f g h : Nat → Bool) : orF f (anF g h) = anF (orF f g) (orF f h) := funext fun n => Bool.or_and_distrib_left _ _ _
theorem sm_orD (f g h : Nat → Bool) : smF f (orF g h) = orF (smF f g) (smF f h) := fext fun n => by
  have key : orF (smF f g) (smF f h) n = true ↔ smF f g n = true ∨ smF f h n = true := Bool.or_eq_true _ _ ▸ Iff.rfl
  rw [key, smF_iff, smF_iff, smF_iff]
  constructor
  · rintro ⟨a, b, h1, h2, e⟩
    rcases (Bool.or_eq_true _ _ ▸ h2 : g b = true ∨ h b = true) with z | z
    · exact .inl ⟨a, b, h1, z, e⟩
    · exact .inr ⟨a, b, h1, z, e⟩
  · rintro (⟨a, b, h1, h2, e⟩ | ⟨a, b, h1, h2, e⟩)
    · exact ⟨a, b, h1, by unfold orF; rw [h2]; rfl, e⟩
    · exact ⟨a, b, h1, by unfold orF; rw [h2, Bool.or_true], e⟩
def Sub (f g : Nat → Bool) : Prop := ∀ n, f n = true → g n = true
theorem sub_an (a : Sub f g) : anF f g = f := fext fun n => by
  unfold anF
  rw [Bool.and_eq_true]
  exact ⟨fun h => h.1, fun h => ⟨h, a n h⟩⟩
theorem sub_or (a : Sub f g) : orF f g = g := (an_or_iff f g).mp (sub_an a)
theorem sm_sub (f g h : Nat → Bool) : Sub (smF f (anF g h)) (anF (smF f g) (smF f h)) := fun n e => by
  obtain ⟨a, b, h1, h2, e⟩ := smF_iff.mp e
  obtain ⟨h3, h4⟩ := Bool.and_eq_true_iff.mp h2
  exact Bool.and_eq_true_iff.mpr ⟨smF_iff.mpr ⟨a, b, h1, h3, e⟩, smF_iff.mpr ⟨a, b, h1, h4, e⟩⟩
theorem sh_sm (f g : Nat → Bool) (k : Nat) : shF (smF f g) k = smF (shF f k) g := fext fun n => by
  rw [shF_iff, smF_iff]
  constructor
  · rintro ⟨c, h, e⟩
    obtain ⟨a, b, h1, h2, e2⟩ := smF_iff.mp h
    exact ⟨a + k, b, shF_iff.mpr ⟨a, h1, rfl⟩, h2, by omega⟩
  · rintro ⟨c, b, h, h2, e⟩
    obtain ⟨a, h1, e2⟩ := shF_iff.mp h
    exact ⟨a + b, smF_iff.mpr ⟨a, b, h1, h2, rfl⟩, by omega⟩
theorem sh_sh (f : Nat → Bool) (k j : Nat) : shF (shF f k) j = shF f (k + j) := fext fun n => by
  rw [shF_iff, shF_iff]
  constructor
  · rintro ⟨c, h, e⟩
    obtain ⟨a, h1, e2⟩ := shF_iff.mp h
    exact ⟨a, h1, by omega⟩
  · rintro ⟨a, h, e⟩
    exact ⟨a + k, shF_iff.mpr ⟨a, h, rfl⟩, by omega⟩
theorem sh_or (f g : Nat → Bool) (k : Nat) : shF (orF f g) k = orF (shF f k) (shF g k) := funext fun n => by
  unfold shF orF
  rw [Bool.and_or_distrib_left]
theorem sh_0 (f : Nat → Bool) : shF f 0 = f := funext fun n => by
  unfold shF
  rw [decide_eq_true (Nat.zero_le _), Nat.sub_zero, Bool.true_and]
theorem can_no : Can noF 0 1 := ⟨⟨Nat.le_refl _, fun _ _ => rfl⟩, fun _ _ h => h.1, fun _ _ _ => Nat.zero_le _⟩
theorem can_one : Can (fun n => decide (n = 0)) 1 1 := can_of ⟨Nat.le_refl _, fun n hn => by show decide (n + 1 = 0) = decide (n = 0); rw [decide_eq_false (by omega), decide_eq_false (by omega)]⟩ (fun _ _ h => h.1) (.inr (by decide))
theorem sm_one (f : Nat → Bool) : smF f (fun n => decide (n = 0)) = f := fext fun n => by
  rw [smF_iff]
  constructor
  · rintro ⟨a, b, h1, h2, e⟩
    have := of_decide_eq_true h2
    have : a = n := by omega
    rw [← this]; exact h1
  · intro h
    exact ⟨n, 0, h, rfl, rfl⟩
/-- the greatest common divisor, step by step -/
def gcdL : Nat → Nat → Nat → Nat
  | 0, a, _ => a
  | n + 1, a, b => if b = 0 then a else gcdL n b (a % b)
theorem gcdL_eq : ∀ (n a b : Nat), b < n → gcdL n a b = Nat.gcd a b
  | 0, _, _, h => by omega
  | n + 1, a, b, h => by
    unfold gcdL
    by_cases c : b = 0
    · rw [if_pos c, c, Nat.gcd_zero_right]
    · rw [if_neg c, gcdL_eq n b (a % b) (by have := Nat.mod_lt a (show b > 0 by omega); omega), Nat.gcd_comm a b, Nat.gcd_rec b a, Nat.gcd_comm]
end SetN
end
section
set_option Elab.async false
set_option linter.all false
set_option maxRecDepth 100000
set_option maxHeartbeats 400000
/-! VL: values of the readings. -/
namespace DL
open PySem PySem.Spec L2 SetN
open PyProof.Rows hiding St
@[simp] theorem bnd_ap {α β : Type} (m : M α) (k : α → M β) (ρ : Rho) : bnd m k ρ = match m ρ with
  | some (.ok a, ρ1) => k a ρ1
  | some (.error e, ρ1) => some (.error e, ρ1)
  | none => none := by rfl
@[simp] theorem lft_some {α : Type} (a : α) (ρ : Rho) : lft (some a) ρ = some (.ok a, ρ) := by rfl
@[simp] theorem lft_none {α : Type} (ρ : Rho) : lft (none : Option α) ρ = none := by rfl
@[simp] theorem ex_ap {α : Type} (m : M α) (k : α → MS) (ρ : Rho) : ex m k ρ = match m ρ with
  | some (.ok a, ρ1) => k a ρ1
  | some (.error e, ρ1) => some (.er e, ρ1)
  | none => none := by rfl
@[simp] theorem sSeq_ap (a b : MS) (ρ : Rho) : sSeq a b ρ = match a ρ with
  | some (.nx, ρ1) => b ρ1
  | r => r := by rfl
@[simp] theorem dChain_ap (o o' : D → D → Option D) (f g h : M Hd) (ρ : Rho) : dChain o o' f g h ρ = (bnd f fun ha => bnd g fun hb => bnd (res ha) fun x => bnd (res hb) fun y => bnd (lft (o x y)) fun z => match z with
  | .bl true => bnd h fun hc => bnd (res hb) fun y => bnd (res hc) fun u => bnd (lft (o' y u)) fun w => pur (.d w)
  | .bl false => pur (.d (.bl false))
  | _ => fun _ => none) ρ := by rfl
@[simp] theorem dCallF_ap (ms : List Bool) (c : Con) (f : M (List Hd)) (ρ : Rho) : dCallF ms c f ρ = (bnd f fun hs => bnd (argM ms hs) fun hs' ρ => if (slotsOf hs').Nodup then match avs ρ hs' with
    | some as => (match c as with
      | some (r, outs) => if outs.length = (slotsOf hs').length then some (r, putAll (slotsOf hs') outs ρ) else none
      | none => none)
    | none => none
  else none) ρ := by rfl
@[simp] theorem resA_nil : resA [] = pur [] := by rfl
@[simp] theorem resA_cons (h : Hd) (hs : List Hd) : resA (h :: hs) = bnd (res h) fun x => bnd (resA hs) fun xs => pur (x :: xs) := by rfl
@[simp] theorem clA_nil : clA [] = pur [] := by rfl
@[simp] theorem clA_cons (h : Hd) (hs : List Hd) : clA (h :: hs) = bnd (cl h) fun x => bnd (clA hs) fun xs => pur (x :: xs) := by rfl
@[simp] theorem res_d (x : D) : res (.d x) = pur x := by rfl
@[simp] theorem res_s (i : Nat) (ρ : Rho) : res (.s i) ρ = match ρ[i]? with
    | some (.d x) => some (.ok x, ρ)
    | some (.o _ xs) => some (.ok (.lst xs), ρ)
    | _ => none := by rfl
@[simp] theorem cl_d (x : D) : cl (.d x) = pur x := by rfl
@[simp] theorem cl_s (i : Nat) (ρ : Rho) : cl (.s i) ρ = match ρ[i]? with
    | some (.d x) => some (.ok x, ρ)
    | some (.o none xs) => some (.ok (.lst xs), ρ.set i (.d (.lst xs)))
    | _ => none := by rfl
@[simp] theorem dVar_ap (i : Nat) (ρ : Rho) : dVar i ρ = match ρ[i]? with
  | some (.d x) => some (.ok (.d x), ρ)
  | some (.o _ _) => some (.ok (.s i), ρ)
  | _ => none := by rfl
@[simp] theorem tgN_ap (i : Nat) (d : D) (ρ : Rho) : tgN i d ρ = some (.ok (), ρ.set i (.d d)) := by rfl
@[simp] theorem tgT_ap (n : Nat) (g : List D → M Unit) (ds : List D) (ρ : Rho) : tgT n g (.tup ds) ρ = if ds.length = n then g ds ρ else none := by rfl
@[simp] theorem arg1_f (h : Hd) : arg1 false h = bnd (cl h) fun x => pur (.d x) := by rfl
@[simp] theorem arg1_t (i : Nat) : arg1 true (.s i) = pur (.s i) := by rfl
@[simp] theorem argM_nil : argM [] [] = pur [] := by rfl
@[simp] theorem argM_cons' (m : Bool) (ms : List Bool) (h : Hd) (hs : List Hd) : argM (m :: ms) (h :: hs) = bnd (arg1 m h) fun x => bnd (argM ms hs) fun r => pur (x :: r) := by rfl
@[simp] theorem avs_nil (ρ : Rho) : avs ρ [] = some [] := by rfl
@[simp] theorem avs_d (ρ : Rho) (x : D) (hs : List Hd) : avs ρ (.d x :: hs) = (avs ρ hs).map (Av.d x :: ·) := by rfl
@[simp] theorem avs_s (ρ : Rho) (i : Nat) (hs : List Hd) : avs ρ (.s i :: hs) = match ρ[i]? with
  | some (.o _ xs) => (avs ρ hs).map (Av.o xs :: ·)
  | _ => none := by rfl
@[simp] theorem putO_ap (ρ : Rho) (i : Nat) (xs : List D) : putO ρ i xs = match ρ[i]? with
  | some (.o b _) => ρ.set i (.o b xs)
  | _ => ρ := by rfl
@[simp] theorem putAll_nil (xss : List (List D)) (ρ : Rho) : putAll [] xss ρ = ρ := by cases xss <;> rfl
@[simp] theorem putAll_cons (i : Nat) (is : List Nat) (xs : List D) (xss : List (List D)) (ρ : Rho) : putAll (i :: is) (xs :: xss) ρ = putAll is xss (putO ρ i xs) := by rfl
@[simp] theorem outs_nil (ρ : Rho) (i k : Nat) : outsGo ρ i k [] = some [] := by rfl
@[simp] theorem outs_d (ρ : Rho) (i k : Nat) (x : D) (as : List Av) : outsGo ρ i k (.d x :: as) = outsGo ρ (i + 1) k as := by rfl
@[simp] theorem outs_o (ρ : Rho) (i k : Nat) (ys : List D) (as : List Av) : outsGo ρ i k (.o ys :: as) = match ρ[i]? with
  | some (.o (some k') xs) => if k' = k then (outsGo ρ (i + 1) (k + 1) as).map (xs :: ·) else none
  | _ => none := by rfl
@[simp] theorem conOf_ap (np n : Nat) (g : MS) (as : List Av) : conOf np n g as = if as.length = np then match g (startR n as) with
  | some (fl, ρ') => (match outsGo ρ' 0 0 as with
    | some outs => (match fl with
      | .nx => some (.ok (.d .non), outs)
      | .rt d => some (.ok (.d d), outs)
      | .ro xs => some (.ok (.o xs), outs)
      | .er e => some (.error e, outs)
      | _ => none)
    | none => none)
  | none => none
  else none := by rfl
@[simp] theorem dOwn_ap (i : Nat) (ρ : Rho) : dOwn i ρ = match ρ[i]? with
  | some (.o _ _) => some (.ok (), ρ)
  | _ => none := by rfl
@[simp] theorem chO_ap (i : Nat) (g : List D → Option (List D)) (ρ : Rho) : chO i g ρ = match ρ[i]? with
  | some (.o b xs) => (match g xs with
    | some ys => some (.ok (), ρ.set i (.o b ys))
    | none => none)
  | _ => none := by rfl
@[simp] theorem sPar2_ap (i j : Nat) (f : M (List Xv)) (ρ : Rho) : sPar2 i j f ρ = (ex f fun xs ρ => match xs with
  | [x, y] => some (.nx, setX (setX ρ i x) j y)
  | _ => none) ρ := by rfl
@[simp] theorem sPar3_ap (i j l : Nat) (f : M (List Xv)) (ρ : Rho) : sPar3 i j l f ρ = (ex f fun xs ρ => match xs with
  | [x, y, z] => some (.nx, setX (setX (setX ρ i x) j y) l z)
  | _ => none) ρ := by rfl
@[simp] theorem tgNil_nil (ρ : Rho) : tgNil [] ρ = some (.ok (), ρ) := by rfl
@[simp] theorem tgCons_cons (h : D → M Unit) (g : List D → M Unit) (d : D) (ds : List D) (ρ : Rho) : tgCons h g (d :: ds) ρ = (bnd (h d) fun _ => g ds) ρ := by rfl
@[simp] theorem oAdd_int (i j : Int) : oAdd (.int i) (.int j) = some (.int (i + j)) := by rfl
@[simp] theorem pur_ap {α : Type} (a : α) (ρ : Rho) : pur a ρ = (fun ρ => some (.ok a, ρ)) ρ := by rfl
@[simp] theorem dK_ap (x : D) (ρ : Rho) : dK x ρ = (pur (.d x)) ρ := by rfl
@[simp] theorem dNil_ap (ρ : Rho) : dNil ρ = (pur []) ρ := by rfl
@[simp] theorem dCons_ap (f : M Hd) (g : M (List Hd)) (ρ : Rho) : dCons f g ρ = (bnd f fun h => bnd g fun hs => pur (h :: hs)) ρ := by rfl
@[simp] theorem dOp_ap (o : D → D → Option D) (f g : M Hd) (ρ : Rho) : dOp o f g ρ = (bnd f fun h => bnd g fun k => bnd (res h) fun x => bnd (res k) fun y => bnd (lft (o x y)) fun z => pur (.d z)) ρ := by rfl
@[simp] theorem dUn_ap (o : D → Option D) (f : M Hd) (ρ : Rho) : dUn o f ρ = (bnd f fun h => bnd (res h) fun x => bnd (lft (o x)) fun z => pur (.d z)) ρ := by rfl
@[simp] theorem dFz_ap (f : M (List D)) (ρ : Rho) : dFz f ρ = (bnd f fun xs => pur (.d (.lst xs))) ρ := by rfl
@[simp] theorem dTup_ap (f : M (List Hd)) (ρ : Rho) : dTup f ρ = (bnd f fun hs => bnd (clA hs) fun ds => bnd (lft (sizeD ds.length)) fun _ => pur (.d (.tup ds))) ρ := by rfl
@[simp] theorem dLst_ap (f : M (List Hd)) (ρ : Rho) : dLst f ρ = (bnd f fun hs => bnd (clA hs) fun ds => bnd (lft (sizeD ds.length)) fun _ => pur ds) ρ := by rfl
@[simp] theorem dTst_ap (f : M Hd) (ρ : Rho) : dTst f ρ = (bnd f fun h => bnd (res h) fun x => lft (truD x)) ρ := by rfl
@[simp] theorem dB_ap (f : M Hd) (ρ : Rho) : dB f ρ = (bnd f fun h => bnd (res h) fun x => lft (blD x)) ρ := by rfl
@[simp] theorem dNot_ap (f : M Bool) (ρ : Rho) : dNot f ρ = (bnd f fun b => pur (!b)) ρ := by rfl
@[simp] theorem dAnd_ap (f g : M Bool) (ρ : Rho) : dAnd f g ρ = (bnd f fun b => if b = true then g else pur false) ρ := by rfl
@[simp] theorem dOr_ap (f g : M Bool) (ρ : Rho) : dOr f g ρ = (bnd f fun b => if b = true then pur true else g) ρ := by rfl
@[simp] theorem dAndV_ap (f g : M Hd) (ρ : Rho) : dAndV f g ρ = (bnd (dB f) fun b => if b = true then g else pur (.d (.bl false))) ρ := by rfl
@[simp] theorem dOrV_ap (f g : M Hd) (ρ : Rho) : dOrV f g ρ = (bnd (dB f) fun b => if b = true then pur (.d (.bl true)) else g) ρ := by rfl
@[simp] theorem dNotV_ap (f : M Hd) (ρ : Rho) : dNotV f ρ = (bnd (dB f) fun b => pur (.d (.bl !b))) ρ := by rfl
@[simp] theorem dIf_ap (c : M Bool) (f g : M Hd) (ρ : Rho) : dIf c f g ρ = (bnd c fun b => if b = true then f else g) ρ := by rfl
@[simp] theorem dCallB_ap (o : List D → Option D) (f : M (List Hd)) (ρ : Rho) : dCallB o f ρ = (bnd f fun hs => bnd (resA hs) fun xs => bnd (lft (o xs)) fun z => pur (.d z)) ρ := by rfl
@[simp] theorem dCallO_ap (o : List D → Option (List D)) (f : M (List Hd)) (ρ : Rho) : dCallO o f ρ = (bnd f fun hs => bnd (resA hs) fun xs => lft (o xs)) ρ := by rfl
@[simp] theorem dOpO_ap (o : D → D → Option (List D)) (f g : M Hd) (ρ : Rho) : dOpO o f g ρ = (bnd f fun h => bnd g fun k => bnd (res h) fun x => bnd (res k) fun y => lft (o x y)) ρ := by rfl
@[simp] theorem dNo_ap (ρ : Rho) : dNo ρ = (pur none) ρ := by rfl
@[simp] theorem dSo_ap (f : M Hd) (ρ : Rho) : dSo f ρ = (bnd f fun h => bnd (res h) fun x => bnd (lft (intD x)) fun i => pur (some i)) ρ := by rfl
@[simp] theorem dSl_ap (o : D → Option Int → Option Int → Option D) (f : M Hd) (l h : M (Option Int)) (ρ : Rho) : dSl o f l h ρ = (bnd f fun k => bnd l fun lo => bnd h fun hi => bnd (res k) fun x => bnd (lft (o x lo hi)) fun z => pur (.d z)) ρ := by rfl
@[simp] theorem dIt_ap (f : M Hd) (ρ : Rho) : dIt f ρ = (bnd f fun h => bnd (cl h) fun x => lft (seqD x)) ρ := by rfl
@[simp] theorem dRng1_ap (f : M Hd) (ρ : Rho) : dRng1 f ρ = (bnd f fun h => bnd (res h) fun x => lft (oRng1 x)) ρ := by rfl
@[simp] theorem dRng2_ap (f g : M Hd) (ρ : Rho) : dRng2 f g ρ = (bnd f fun h => bnd g fun k => bnd (res h) fun x => bnd (res k) fun y => lft (oRng2 x y)) ρ := by rfl
@[simp] theorem dRngN_ap (f g h : M Hd) (ρ : Rho) : dRngN f g h ρ = (bnd f fun h1 => bnd g fun h2 => bnd h fun h3 => bnd (res h1) fun x => bnd (res h2) fun y => bnd (res h3) fun z => lft (oRngN x y z)) ρ := by rfl
@[simp] theorem dEn_ap (f : M Hd) (ρ : Rho) : dEn f ρ = (bnd f fun h => bnd (cl h) fun x => bnd (lft (lstD x)) fun xs => pur (enD xs)) ρ := by rfl
@[simp] theorem dZp_ap (f g : M Hd) (ρ : Rho) : dZp f g ρ = (bnd f fun h => bnd g fun k => bnd (cl h) fun x => bnd (cl k) fun y => bnd (lft (lstD x)) fun xs => bnd (lft (lstD y)) fun ys => pur (zpD xs ys)) ρ := by rfl
@[simp] theorem sSetD_ap (i : Nat) (f : M Hd) (ρ : Rho) : sSetD i f ρ = (ex (bnd f cl) fun x ρ => some (.nx, ρ.set i (.d x))) ρ := by rfl
@[simp] theorem sSetO_ap (i : Nat) (f : M (List D)) (ρ : Rho) : sSetO i f ρ = (ex f fun xs ρ => some (.nx, ρ.set i (.o none xs))) ρ := by rfl
@[simp] theorem sRet_ap (f : M Hd) (ρ : Rho) : sRet f ρ = (ex (bnd f cl) fun x ρ => some (.rt x, ρ)) ρ := by rfl
@[simp] theorem sRetO_ap (f : M (List D)) (ρ : Rho) : sRetO f ρ = (ex f fun xs ρ => some (.ro xs, ρ)) ρ := by rfl
@[simp] theorem sRetN_ap (ρ : Rho) : sRetN ρ = (fun ρ => some (.rt .non, ρ)) ρ := by rfl
@[simp] theorem sExpr_ap (f : M Hd) (ρ : Rho) : sExpr f ρ = (ex f fun _ ρ => some (.nx, ρ)) ρ := by rfl
@[simp] theorem sIf_ap (c : M Bool) (a b : MS) (ρ : Rho) : sIf c a b ρ = (ex c fun t => if t = true then a else b) ρ := by rfl
@[simp] theorem sNil_ap (ρ : Rho) : sNil ρ = (fun ρ => some (.nx, ρ)) ρ := by rfl
@[simp] theorem sBrk_ap (ρ : Rho) : sBrk ρ = (fun ρ => some (.bk, ρ)) ρ := by rfl
@[simp] theorem sCnt_ap (ρ : Rho) : sCnt ρ = (fun ρ => some (.ct, ρ)) ρ := by rfl
@[simp] theorem sNever_ap (ρ : Rho) : sNever ρ = (fun _ => none) ρ := by rfl
@[simp] theorem dYes_ap (ρ : Rho) : dYes ρ = (pur true) ρ := by rfl
@[simp] theorem sAsgT_ap (h : D → M Unit) (f : M Hd) (ρ : Rho) : sAsgT h f ρ = (ex (bnd f cl) fun x => ex (h x) fun _ ρ => some (.nx, ρ)) ρ := by rfl
@[simp] theorem sFor_ap (f : M (List D)) (h : D → M Unit) (b : MS) (ρ : Rho) : sFor f h b ρ = (ex f fun items => fo h b items) ρ := by rfl
@[simp] theorem dCall_ap (ms : List Bool) (c : Con) (f : M (List Hd)) (ρ : Rho) : dCall ms c f ρ = (bnd (dCallF ms c f) fun r => lft (rtD r)) ρ := by rfl
@[simp] theorem dCallOwn_ap (ms : List Bool) (c : Con) (f : M (List Hd)) (ρ : Rho) : dCallOwn ms c f ρ = (bnd (dCallF ms c f) fun r => lft (rtO r)) ρ := by rfl
@[simp] theorem dAppend_ap (i : Nat) (f : M Hd) (ρ : Rho) : dAppend i f ρ = (bnd (dOwn i) fun _ => bnd (bnd f cl) fun x => bnd (chO i (appD x)) fun _ => pur (.d .non)) ρ := by rfl
@[simp] theorem dExtend_ap (i : Nat) (f : M Hd) (ρ : Rho) : dExtend i f ρ = (bnd (dOwn i) fun _ => bnd (bnd f cl) fun x => bnd (lft (lstD x)) fun ys => bnd (chO i (extD ys)) fun _ => pur (.d .non)) ρ := by rfl
@[simp] theorem sSetIx_ap (i : Nat) (fk fe : M Hd) (ρ : Rho) : sSetIx i fk fe ρ = (ex (bnd (bnd fe cl) fun x => bnd (dOwn i) fun _ => bnd fk fun h => bnd (res h) fun kd => bnd (lft (intD kd)) fun k => chO i (putD k x)) fun _ ρ => some (.nx, ρ)) ρ := by rfl
@[simp] theorem dIsi_ap (T : String) (f : M Hd) (ρ : Rho) : dIsi T f ρ = (dUn (isiT T) f) ρ := by rfl
@[simp] theorem dRg1_ap (f : M Hd) (ρ : Rho) : dRg1 f ρ = (bnd f fun h => bnd (res h) fun x => bnd (lft (intD x)) fun j => bnd (lft (rgOkD 0 j)) fun _ => pur (rngD 0 (j - 0).toNat)) ρ := by rfl
@[simp] theorem dRg2_ap (f g : M Hd) (ρ : Rho) : dRg2 f g ρ = (bnd f fun h => bnd g fun k => bnd (res h) fun x => bnd (res k) fun y => bnd (lft (intD x)) fun i => bnd (lft (intD y)) fun j => bnd (lft (rgOkD i j)) fun _ => pur (rngD i (j - i).toNat)) ρ := by rfl
@[simp] theorem dTpl_ap (f : M (List D)) (ρ : Rho) : dTpl f ρ = (bnd f fun xs => pur (.d (.tup xs))) ρ := by rfl
@[simp] theorem xNil_ap (ρ : Rho) : xNil ρ = (pur []) ρ := by rfl
@[simp] theorem xD_ap (f : M Hd) (g : M (List Xv)) (ρ : Rho) : xD f g ρ = (bnd (bnd f cl) fun x => bnd g fun xs => pur (.d x :: xs)) ρ := by rfl
@[simp] theorem xO_ap (f : M (List D)) (g : M (List Xv)) (ρ : Rho) : xO f g ρ = (bnd f fun x => bnd g fun xs => pur (.o x :: xs)) ρ := by rfl
@[simp] theorem dZipT_ap (f g : M Hd) (ρ : Rho) : dZipT f g ρ = (bnd f fun h => bnd g fun k => bnd (res h) fun x => bnd (res k) fun y => bnd (lft (tupD x)) fun xs => bnd (lft (tupD y)) fun ys => pur (zpD xs ys)) ρ := by rfl
@[simp] theorem dSortSet_ap (f : M Hd) (ρ : Rho) : dSortSet f ρ = (bnd f fun h => bnd (res h) fun x => bnd (lft (seqD x)) fun xs => bnd (lft (asInts xs)) fun ns => bnd (lft (size4 ns)) fun _ => pur ((sortI ns).map D.int)) ρ := by rfl
@[simp] theorem dRevT_ap (f : M Hd) (ρ : Rho) : dRevT f ρ = (bnd f fun h => bnd (res h) fun x => bnd (lft (tupD x)) fun xs => pur (.d (.tup xs.reverse))) ρ := by rfl
theorem oMod_pos {i j : Int} (h : 0 < j) : oMod (.int i) (.int j) = some (.int (i % j)) := by simp [oMod, h]
theorem flA_ints : ∀ l : List Int, flA (l.map D.int) = some (l.map V.int)
  | [] => rfl
  | i :: l => by rw [List.map_cons, List.map_cons]; unfold flA; rw [flA_ints l]; rfl
theorem inV_ints (n : Int) : ∀ l : List Int, inV (.int n) (l.map V.int) = decide (n ∈ l)
  | [] => by simp [inV]
  | i :: l => by
    have ih := inV_ints n l
    unfold inV at ih ⊢
    rw [List.map_cons, List.any_cons, ih]
    have e : eqV (.int i) (.int n) = decide (n = i) := by
      show (i == n) = _
      rw [Bool.eq_iff_iff, beq_iff_eq, decide_eq_true_iff]
      exact eq_comm
    rw [e]
    by_cases h : n = i <;> simp [h]
theorem oIn_ints (n : Int) (l : List Int) : oIn (.int n) (.tup (l.map D.int)) = some (.bl (decide (n ∈ l))) := by
  show (inPy _ _).map D.bl = _
  unfold inPy
  rw [flA_ints]
  show Option.map D.bl (some (inV (.int n) _)) = _
  rw [inV_ints]
  rfl
theorem lcL_pure {h : D → M Unit} {c : M Bool} {e : M D} {vs : List Nat} {ρ' : Rho} (C : D → Bool) (E : D → D) : ∀ xs : List D,
    (∀ x ∈ xs, ∃ ρx, h x ρ' = some (.ok (), ρx) ∧ c ρx = some (.ok (C x), ρx) ∧ (C x = true → e ρx = some (.ok (E x), ρx)) ∧ wipeR ρx vs = ρ') → lcL h c e vs xs ρ' = some ((xs.filter C).map E, ρ')
  | [], _ => rfl
  | x :: xs, H => by
    obtain ⟨ρx, h1, h2, h3, h4⟩ := H x List.mem_cons_self
    have ih := lcL_pure C E xs fun y hy => H y (List.mem_cons_of_mem _ hy)
    unfold lcL
    cases hc : C x with
    | true => simp [h1, h2, hc, h3 hc, h4, ih, List.filter_cons]
    | false => simp [h1, h2, hc, h4, ih, List.filter_cons]
theorem dLcG {f : M (List D)} {h : D → M Unit} {c : M Bool} {e : M Hd} {vs : List Nat} {ρ ρ1 : Rho} {xs : List D} (C : D → Bool) (E : D → D) (hf : f ρ = some (.ok xs, ρ1)) (hn : notOwn ρ1 vs = true) (hl : xs.length ≤ 16777216) (hr : rest ρ1 (wipeR ρ1 vs) vs = ρ1)
    (hx : ∀ x ∈ xs, ∃ ρx, h x (wipeR ρ1 vs) = some (.ok (), ρx) ∧ c ρx = some (.ok (C x), ρx) ∧ (C x = true → bnd e cl ρx = some (.ok (E x), ρx)) ∧ wipeR ρx vs = wipeR ρ1 vs) :
    dLc f h c e vs ρ = some (.ok ((xs.filter C).map E), ρ1) := by
  have hL := lcL_pure C E xs hx
  unfold dLc
  generalize bnd e cl = e0 at hL ⊢
  unfold bnd
  rw [hf]
  show (if notOwn ρ1 vs = true ∧ xs.length ≤ 16777216 then _ else _) = _
  rw [if_pos ⟨hn, hl⟩, hL]
  show some (Except.ok _, rest ρ1 (wipeR ρ1 vs) vs) = _
  rw [hr]
theorem rng_fm (C : D → Bool) (E : D → D) (lo : Int) (n : Nat) : ((rngD lo n).filter C).map E = ((List.range n).filter fun k => C (.int (lo + (k : Nat)))).map fun k => E (.int (lo + (k : Nat))) := by
  unfold rngD
  rw [List.filter_map, List.map_map]
  rfl
theorem filter_tt {α : Type} (l : List α) : l.filter (fun _ => true) = l := List.filter_eq_self.mpr fun _ _ => rfl
theorem dLcE {f : M (List D)} {h : D → M Unit} {e : M Hd} {vs : List Nat} {ρ ρ1 : Rho} {xs : List D} (E : D → D) (hf : f ρ = some (.ok xs, ρ1)) (hn : notOwn ρ1 vs = true) (hl : xs.length ≤ 16777216) (hr : rest ρ1 (wipeR ρ1 vs) vs = ρ1)
    (hx : ∀ x ∈ xs, ∃ ρx, h x (wipeR ρ1 vs) = some (.ok (), ρx) ∧ bnd e cl ρx = some (.ok (E x), ρx) ∧ wipeR ρx vs = wipeR ρ1 vs) :
    dLc f h dYes e vs ρ = some (.ok (xs.map E), ρ1) := by
  have q := dLcG (c := dYes) (e := e) (fun _ => true) E hf hn hl hr fun x hm => by
    obtain ⟨ρx, h1, h2, h3⟩ := hx x hm
    exact ⟨ρx, h1, rfl, fun _ => h2, h3⟩
  rw [filter_tt] at q
  exact q
theorem mem_rngD {x : D} {lo : Int} {n : Nat} (h : x ∈ rngD lo n) : ∃ k, k < n ∧ x = .int (lo + (k : Nat)) := by
  unfold rngD at h
  obtain ⟨k, hk, e⟩ := List.mem_map.mp h
  exact ⟨k, List.mem_range.mp hk, e.symm⟩
theorem wh_back {f : Nat → Bool} {q s0 : Nat} {t : M Bool} {b : MS} (R : Nat → Rho) (h0 : t (R 0) = some (.ok false, R 0)) (h1 : ∀ n, n < s0 → t (R (n + 1)) = some (.ok (decide (f n = f (n + q))), R (n + 1))) (h2 : ∀ n, n < s0 → b (R (n + 1)) = some (.nx, R n)) :
    ∀ (s fuel : Nat), s ≤ s0 → s < fuel → wh t b fuel (R s) = some (.nx, R (back f q s))
  | 0, fuel + 1, _, _ => by
    unfold wh
    rw [h0] <;> rfl
  | s + 1, fuel + 1, hs, hl => by
    unfold wh back
    rw [h1 s (by omega)]
    by_cases c : f s = f (s + q)
    · simp only [c, decide_true, if_true, h2 s (by omega)]
      exact wh_back R h0 h1 h2 s fuel (by omega) (by omega)
    · simp only [c, decide_false, if_false]
/-- a told set -/
abbrev tD (b : List Int) (s p : Int) (a : List Int) : D := .tup [.tup (b.map D.int), .int s, .int p, .tup (a.map D.int)]
def hasV (b : List Int) (s p : Int) (a : List Int) (n : Int) : Bool := if n < s then decide (n ∈ b) else decide (s + (n - s) % p ∈ a)
end DL
end
section
set_option Elab.async false
set_option linter.all false
set_option maxRecDepth 100000
set_option maxHeartbeats 400000
/-! VL2: more values. -/
namespace DL
open PySem PySem.Spec L2 SetN
open PyProof.Rows hiding St
/-! equality -/
theorem toPyA_ints : ∀ l : List Int, toPyA (l.map D.int) = some (l.map PyData.int)
  | [] => rfl
  | i :: l => by
    rw [List.map_cons, List.map_cons]
    unfold toPyA
    rw [toPyA_ints l] <;> rfl
theorem toPyA_bls : ∀ l : List Bool, toPyA (l.map D.bl) = some (l.map PyData.bool)
  | [] => rfl
  | i :: l => by
    rw [List.map_cons, List.map_cons]
    unfold toPyA
    rw [toPyA_bls l] <;> rfl
theorem lay_ints : ∀ l : List Int, PyData.canLayAll0 (l.map PyData.int) = true
  | [] => rfl
  | i :: l => by
    rw [List.map_cons]
    unfold PyData.canLayAll0
    rw [lay_ints l] <;> rfl
theorem lay_bls : ∀ l : List Bool, PyData.canLayAll0 (l.map PyData.bool) = true
  | [] => rfl
  | i :: l => by
    rw [List.map_cons]
    unfold PyData.canLayAll0
    rw [lay_bls l] <;> rfl
theorem dep_ints : ∀ l : List Int, PyData.depthAll (l.map PyData.int) = 0
  | [] => rfl
  | i :: l => by
    rw [List.map_cons]
    unfold PyData.depthAll
    rw [dep_ints l] <;> rfl
theorem dep_bls : ∀ l : List Bool, PyData.depthAll (l.map PyData.bool) = 0
  | [] => rfl
  | i :: l => by
    rw [List.map_cons]
    unfold PyData.depthAll
    rw [dep_bls l] <;> rfl
theorem eqvA_ints : ∀ l m : List Int, PyData.eqvAll (l.map PyData.int) (m.map PyData.int) = decide (l = m)
  | [], [] => rfl
  | [], _ :: _ => by simp [PyData.eqvAll]
  | _ :: _, [] => by simp [PyData.eqvAll]
  | i :: l, j :: m => by
    rw [List.map_cons, List.map_cons]
    unfold PyData.eqvAll
    rw [eqvA_ints l m]
    have e : PyData.eqv (.int i) (.int j) = decide (i = j) := by
      show (i == j) = _
      rw [Bool.eq_iff_iff, beq_iff_eq, decide_eq_true_iff]
    rw [e]
    by_cases h : i = j <;> simp [h]
theorem eqvA_bls : ∀ l m : List Bool, PyData.eqvAll (l.map PyData.bool) (m.map PyData.bool) = decide (l = m)
  | [], [] => rfl
  | [], _ :: _ => by simp [PyData.eqvAll]
  | _ :: _, [] => by simp [PyData.eqvAll]
  | i :: l, j :: m => by
    rw [List.map_cons, List.map_cons]
    unfold PyData.eqvAll
    rw [eqvA_bls l m]
    have e : PyData.eqv (.bool i) (.bool j) = decide (i = j) := by
      show (i == j) = _
      rw [Bool.eq_iff_iff, beq_iff_eq, decide_eq_true_iff]
    rw [e]
    by_cases h : i = j <;> simp [h]
theorem eqPy_of {x y : D} {p q : PyData} (h1 : toPy x = some p) (h2 : toPy y = some q) (s1 : SeqAt.shaped p = true) (s2 : SeqAt.shaped q = true) : eqPy x y = some (PyData.eqv p q) := by
  unfold eqPy
  rw [h1, h2]
  simp [s1, s2]
theorem sh_int (i : Int) : SeqAt.shaped (.int i) = true := rfl
theorem sh_bl (i : Bool) : SeqAt.shaped (.bool i) = true := rfl
theorem sh_tup (l : List Int) : SeqAt.shaped (.tuple (l.map PyData.int)) = true := by
  unfold SeqAt.shaped
  have e1 : PyData.canLay0 (.tuple (l.map PyData.int)) = true := lay_ints l
  have e2 : PyData.depth (.tuple (l.map PyData.int)) = 1 := by
    show PyData.depthAll _ + 1 = 1
    rw [dep_ints]
  rw [e1, e2] <;> rfl
theorem sh_lst (l : List Int) : SeqAt.shaped (.list (l.map PyData.int)) = true := by
  unfold SeqAt.shaped
  have e1 : PyData.canLay0 (.list (l.map PyData.int)) = true := lay_ints l
  have e2 : PyData.depth (.list (l.map PyData.int)) = 1 := by
    show PyData.depthAll _ + 1 = 1
    rw [dep_ints]
  rw [e1, e2] <;> rfl
theorem sh_lstB (l : List Bool) : SeqAt.shaped (.list (l.map PyData.bool)) = true := by
  unfold SeqAt.shaped
  have e1 : PyData.canLay0 (.list (l.map PyData.bool)) = true := lay_bls l
  have e2 : PyData.depth (.list (l.map PyData.bool)) = 1 := by
    show PyData.depthAll _ + 1 = 1
    rw [dep_bls]
  rw [e1, e2] <;> rfl
theorem py_tup (l : List Int) : toPy (.tup (l.map D.int)) = some (.tuple (l.map PyData.int)) := by
  show (toPyA _).map PyData.tuple = _
  rw [toPyA_ints] <;> rfl
theorem py_lst (l : List Int) : toPy (.lst (l.map D.int)) = some (.list (l.map PyData.int)) := by
  show (toPyA _).map PyData.list = _
  rw [toPyA_ints] <;> rfl
theorem py_lstB (l : List Bool) : toPy (.lst (l.map D.bl)) = some (.list (l.map PyData.bool)) := by
  show (toPyA _).map PyData.list = _
  rw [toPyA_bls] <;> rfl
theorem qe_bl (a b : Bool) : oEq (.bl a) (.bl b) = some (.bl (decide (a = b))) := by
  unfold oEq
  rw [eqPy_of (p := .bool a) (q := .bool b) rfl rfl (sh_bl a) (sh_bl b)]
  show some (D.bl (a == b)) = _
  congr 2
  all_goals rw [Bool.eq_iff_iff, beq_iff_eq, decide_eq_true_iff]
theorem qn_bl (a b : Bool) : oNe (.bl a) (.bl b) = some (.bl !(decide (a = b))) := by
  unfold oNe
  rw [eqPy_of (p := .bool a) (q := .bool b) rfl rfl (sh_bl a) (sh_bl b)]
  show some (D.bl !(a == b)) = _
  congr 3
  all_goals rw [Bool.eq_iff_iff, beq_iff_eq, decide_eq_true_iff]
theorem qe_int (a b : Int) : oEq (.int a) (.int b) = some (.bl (decide (a = b))) := by
  unfold oEq
  rw [eqPy_of (p := .int a) (q := .int b) rfl rfl (sh_int a) (sh_int b)]
  show some (D.bl (a == b)) = _
  congr 2
  all_goals rw [Bool.eq_iff_iff, beq_iff_eq, decide_eq_true_iff]
theorem qn_int (a b : Int) : oNe (.int a) (.int b) = some (.bl !(decide (a = b))) := by
  unfold oNe
  rw [eqPy_of (p := .int a) (q := .int b) rfl rfl (sh_int a) (sh_int b)]
  show some (D.bl !(a == b)) = _
  congr 3
  all_goals rw [Bool.eq_iff_iff, beq_iff_eq, decide_eq_true_iff]
theorem qe_lst (l m : List Int) : oEq (.lst (l.map D.int)) (.lst (m.map D.int)) = some (.bl (decide (l = m))) := by
  unfold oEq
  rw [eqPy_of (py_lst l) (py_lst m) (sh_lst l) (sh_lst m)]
  show some (D.bl (PyData.eqvAll _ _)) = _
  rw [eqvA_ints]
theorem qn_lst (l m : List Int) : oNe (.lst (l.map D.int)) (.lst (m.map D.int)) = some (.bl !(decide (l = m))) := by
  unfold oNe
  rw [eqPy_of (py_lst l) (py_lst m) (sh_lst l) (sh_lst m)]
  show some (D.bl !(PyData.eqvAll _ _)) = _
  rw [eqvA_ints]
theorem qe_tup (l m : List Int) : oEq (.tup (l.map D.int)) (.tup (m.map D.int)) = some (.bl (decide (l = m))) := by
  unfold oEq
  rw [eqPy_of (py_tup l) (py_tup m) (sh_tup l) (sh_tup m)]
  show some (D.bl (PyData.eqvAll _ _)) = _
  rw [eqvA_ints]
theorem qn_tup (l m : List Int) : oNe (.tup (l.map D.int)) (.tup (m.map D.int)) = some (.bl !(decide (l = m))) := by
  unfold oNe
  rw [eqPy_of (py_tup l) (py_tup m) (sh_tup l) (sh_tup m)]
  show some (D.bl !(PyData.eqvAll _ _)) = _
  rw [eqvA_ints]
theorem qe_lstB (l m : List Bool) : oEq (.lst (l.map D.bl)) (.lst (m.map D.bl)) = some (.bl (decide (l = m))) := by
  unfold oEq
  rw [eqPy_of (py_lstB l) (py_lstB m) (sh_lstB l) (sh_lstB m)]
  show some (D.bl (PyData.eqvAll _ _)) = _
  rw [eqvA_bls]
/-! told sets -/
theorem py_tD (b : List Int) (s p : Int) (a : List Int) : toPy (tD b s p a) = some (.tuple [.tuple (b.map PyData.int), .int s, .int p, .tuple (a.map PyData.int)]) := by
  show (toPyA _).map PyData.tuple = _
  unfold toPyA
  rw [py_tup]
  unfold toPyA
  unfold toPyA
  unfold toPyA
  rw [py_tup] <;> rfl
theorem sh_tD (b : List Int) (s p : Int) (a : List Int) : SeqAt.shaped (.tuple [.tuple (b.map PyData.int), .int s, .int p, .tuple (a.map PyData.int)]) = true := by
  unfold SeqAt.shaped
  have e1 : PyData.canLay0 (.tuple [.tuple (b.map PyData.int), .int s, .int p, .tuple (a.map PyData.int)]) = true := by
    show (PyData.canLayAll0 (b.map PyData.int) && (true && (true && (PyData.canLayAll0 (a.map PyData.int) && true)))) = true
    rw [lay_ints, lay_ints] <;> rfl
  have e2 : PyData.depth (.tuple [.tuple (b.map PyData.int), .int s, .int p, .tuple (a.map PyData.int)]) = 2 := by
    show max (PyData.depthAll _ + 1) (max 0 (max 0 (max (PyData.depthAll _ + 1) 0))) + 1 = 2
    rw [dep_ints, dep_ints] <;> rfl
  rw [e1, e2] <;> rfl
theorem eqv_tD (b b' : List Int) (s s' p p' : Int) (a a' : List Int) : PyData.eqv (.tuple [.tuple (b.map PyData.int), .int s, .int p, .tuple (a.map PyData.int)]) (.tuple [.tuple (b'.map PyData.int), .int s', .int p', .tuple (a'.map PyData.int)]) = decide (b = b' ∧ s = s' ∧ p = p' ∧ a = a') := by
  show (PyData.eqvAll (b.map PyData.int) (b'.map PyData.int) && ((s == s') && ((p == p') && (PyData.eqvAll (a.map PyData.int) (a'.map PyData.int) && true)))) = _
  rw [eqvA_ints, eqvA_ints, Bool.eq_iff_iff]
  simp
theorem qe_tD (b b' : List Int) (s s' p p' : Int) (a a' : List Int) : oEq (tD b s p a) (tD b' s' p' a') = some (.bl (decide (b = b' ∧ s = s' ∧ p = p' ∧ a = a'))) := by
  unfold oEq
  rw [eqPy_of (py_tD b s p a) (py_tD b' s' p' a') (sh_tD b s p a) (sh_tD b' s' p' a'), eqv_tD] <;> rfl
theorem qn_tD (b b' : List Int) (s s' p p' : Int) (a a' : List Int) : oNe (tD b s p a) (tD b' s' p' a') = some (.bl !(decide (b = b' ∧ s = s' ∧ p = p' ∧ a = a'))) := by
  unfold oNe
  rw [eqPy_of (py_tD b s p a) (py_tD b' s' p' a') (sh_tD b s p a) (sh_tD b' s' p' a'), eqv_tD] <;> rfl
theorem rng1_v {N : Nat} (h : N ≤ 100000) : oRng1 (.int N) = some (rngD 0 N) := by
  unfold oRng1
  show (if SmI (N : Int) then some (rngD 0 ((N : Int)).toNat) else none) = _
  rw [if_pos (SmI.of (by omega)), Int.toNat_natCast]
theorem rng2_v {s n : Nat} (h : s + n ≤ 100000) : oRng2 (.int s) (.int ((s : Int) + n)) = some (rngD s n) := by
  unfold oRng2
  have e : ((s : Int) + n - s).toNat = n := by omega
  show (if SmI (s : Int) ∧ SmI ((s : Int) + n) then some (rngD s ((s : Int) + n - s).toNat) else none) = _
  rw [if_pos ⟨SmI.of (by omega), SmI.of (by omega)⟩, e]
theorem rngN_v {p : Nat} (h : p ≤ 100000) : oRngN (.int p) (.int 0) (.int (-1)) = some (rngC p (-1) p) := by
  unfold oRngN
  have e : ((p : Int) - 0).toNat = p := by omega
  show (if (-1 : Int) = -1 ∧ SmI (p : Int) ∧ SmI (0 : Int) then some (rngC p (-1) ((p : Int) - 0).toNat) else none) = _
  rw [if_pos ⟨rfl, SmI.of (by omega), SmI.of (by omega)⟩, e]
/-! flags -/
def flL (f : Nat → Bool) (n : Nat) : List D := ((List.range n).map f).map D.bl
theorem flL_len (f : Nat → Bool) (n : Nat) : (flL f n).length = n := by simp [flL]
theorem flL_at {f : Nat → Bool} {n i : Nat} (h : i < n) : atI (flL f n) (i : Int) = some (.bl (f i)) := by
  unfold atI ixN
  rw [flL_len, if_pos (by omega), if_pos (by omega)]
  show (flL f n)[((i : Int)).toNat]? = _
  rw [Int.toNat_natCast]
  simp [flL, h]
theorem flL_drop (f : Nat → Bool) (s p : Nat) : (flL f (s + p)).drop s = flL (fun i => f (s + i)) p := by
  unfold flL
  rw [← List.map_drop, ← List.map_drop, List.range_add, List.drop_left' (List.length_range)]
  simp [Function.comp_def]
theorem flL_take (f : Nat → Bool) {d n : Nat} (h : d ≤ n) : (flL f n).take d = flL f d := by
  unfold flL
  rw [← List.map_take, ← List.map_take, List.take_range, Nat.min_eq_left h]
theorem cut_from {α : Type} (xs : List α) (s : Nat) (h : s ≤ xs.length) : cutG xs (some (s : Int)) none = xs.drop s := by
  unfold cutG
  have e1 : HT.sIx xs.length 0 (some (s : Int)) = s := by
    show (if (s : Int) < 0 then ((s : Int) + (xs.length : Nat)).toNat else min ((s : Int)).toNat xs.length) = s
    rw [if_neg (by omega), Int.toNat_natCast, Nat.min_eq_left h]
  have e2 : HT.sIx xs.length xs.length none = xs.length := rfl
  rw [e1, e2, List.take_of_length_le]
  rw [List.length_drop]
  exact Nat.le_refl _
theorem cut_to {α : Type} (xs : List α) (s : Nat) : cutG xs none (some (s : Int)) = xs.take s := by
  unfold cutG
  have e1 : HT.sIx xs.length 0 none = 0 := rfl
  have e2 : HT.sIx xs.length xs.length (some (s : Int)) = min s xs.length := by
    show (if (s : Int) < 0 then ((s : Int) + (xs.length : Nat)).toNat else min ((s : Int)).toNat xs.length) = _
    rw [if_neg (by omega), Int.toNat_natCast]
  rw [e1, e2, List.drop_zero, Nat.sub_zero]
  by_cases h : s ≤ xs.length
  · rw [Nat.min_eq_left h]
  · rw [Nat.min_eq_right (by omega), List.take_of_length_le (Nat.le_refl _), List.take_of_length_le (by omega)]
theorem any_fl (f : Nat → Bool) (n : Nat) : oAny [.lst (flL f n)] = some (.bl ((List.range n).any f)) := by
  show (asBls _).map _ = _
  unfold flL
  rw [asBls_map]
  show some (D.bl _) = _
  rw [List.any_map] <;> rfl
/-- the members below n, from lo on -/
def rowI (f : Nat → Bool) (lo n : Nat) : List Int := ((List.range n).filter fun i => f (lo + i)).map fun i => ((lo + i : Nat) : Int)
abbrev tal (f : Nat → Bool) (t q : Nat) : D := tD (rowI f 0 t) t q (rowI f t q)
theorem rowI_congr {f g : Nat → Bool} {lo n : Nat} (h : ∀ i, i < n → f (lo + i) = g (lo + i)) : rowI f lo n = rowI g lo n := by
  unfold rowI
  congr 1
  refine List.filter_congr fun i hi => h i (List.mem_range.mp hi)
theorem mem_rowI {f : Nat → Bool} {lo n : Nat} {x : Int} : x ∈ rowI f lo n ↔ ∃ i, lo ≤ i ∧ i < lo + n ∧ f i = true ∧ x = (i : Nat) := by
  unfold rowI
  rw [List.mem_map]
  constructor
  · rintro ⟨i, hi, rfl⟩
    obtain ⟨h1, h2⟩ := List.mem_filter.mp hi
    exact ⟨lo + i, by omega, by have := List.mem_range.mp h1; omega, h2, rfl⟩
  · rintro ⟨i, h1, h2, h3, rfl⟩
    refine ⟨i - lo, List.mem_filter.mpr ⟨List.mem_range.mpr (by omega), ?_⟩, ?_⟩
    · have e : lo + (i - lo) = i := by omega
      rw [e]; exact h3
    · have e : lo + (i - lo) = i := by omega
      rw [e]
theorem rowI_pw (f : Nat → Bool) (lo n : Nat) : (rowI f lo n).Pairwise (· < ·) := by
  unfold rowI
  refine List.pairwise_map.mpr (List.Pairwise.imp (R := (· < ·)) (fun {a b} h => by omega) (List.Pairwise.filter _ List.pairwise_lt_range))
theorem rowI_len (f : Nat → Bool) (lo n : Nat) : (rowI f lo n).length ≤ n := by
  unfold rowI
  rw [List.length_map]
  exact Nat.le_trans (List.length_filter_le _ _) (by rw [List.length_range]; exact Nat.le_refl _)
theorem rowI_ext {l : List Int} {f : Nat → Bool} {lo n : Nat} (h : l.Pairwise (· < ·)) (hm : ∀ x, x ∈ l ↔ x ∈ rowI f lo n) : l = rowI f lo n := pw_ext h (rowI_pw f lo n) hm
/-- membership in a least tally -/
theorem hasV_tal {f : Nat → Bool} {t q : Nat} (c : EP f t q) (n : Nat) : hasV (rowI f 0 t) t q (rowI f t q) (n : Nat) = f n := by
  unfold hasV
  by_cases h : n < t
  · rw [if_pos (by omega), Bool.eq_iff_iff, decide_eq_true_iff, mem_rowI]
    constructor
    · rintro ⟨i, _, _, h3, e⟩
      have : i = n := by omega
      rw [← this]; exact h3
    · intro e
      exact ⟨n, by omega, by omega, e, rfl⟩
  · rw [if_neg (by omega), Bool.eq_iff_iff, decide_eq_true_iff, mem_rowI]
    have e1 : (t : Int) + ((n : Int) - t) % q = ((t + (n - t) % q : Nat) : Int) := by
      have e2 : (n : Int) - t = ((n - t : Nat) : Int) := by omega
      rw [e2, Int.natCast_add, Int.natCast_emod]
    rw [e1, ← c.mod (n := n) (by omega)]
    have lt := Nat.mod_lt (n - t) (show q > 0 from c.1)
    constructor
    · rintro ⟨i, _, _, h3, e⟩
      have : i = t + (n - t) % q := by omega
      rw [← this]; exact h3
    · intro e
      exact ⟨_, by omega, by omega, e, rfl⟩
/-- what a told set has -/
def fV (b : List Int) (s p : Nat) (a : List Int) : Nat → Bool := fun n => hasV b s p a (n : Nat)
theorem fV_ep {b a : List Int} {s p : Nat} (hp : 1 ≤ p) : EP (fV b s p a) s p := ⟨hp, fun n hn => by
  unfold fV hasV
  rw [if_neg (by omega), if_neg (by omega)]
  have e : ((n + p : Nat) : Int) - s = (n : Int) - s + p := by omega
  rw [e, Int.add_emod_right]⟩
theorem fV_tal {f : Nat → Bool} {t q : Nat} (c : EP f t q) : fV (rowI f 0 t) t q (rowI f t q) = f := funext fun n => hasV_tal c n
end DL
end
section
set_option Elab.async false
set_option linter.all false
set_option maxRecDepth 100000
set_option maxHeartbeats 400000
/-! VL3: periods of flags, by values. -/
namespace DL
open PySem PySem.Spec L2 SetN
open PyProof.Rows hiding St
theorem rep_get {α : Type} {d : Nat} (hd : 1 ≤ d) : ∀ (k i : Nat) (ys : List α), ys.length = d → i < k * d → ((List.replicate k ys).flatten)[i]? = ys[i % d]?
  | 0, i, ys, _, h => by rw [Nat.zero_mul] at h; omega
  | k + 1, i, ys, hl, h => by
    rw [List.replicate_succ, List.flatten_cons]
    by_cases c : i < d
    · rw [List.getElem?_append_left (by omega), Nat.mod_eq_of_lt c]
    · rw [Nat.succ_mul] at h
      rw [List.getElem?_append_right (by omega), hl, rep_get hd k (i - d) ys hl (by omega)]
      congr 1
      have : i = i - d + d := by omega
      rw [this, Nat.add_mod_right]
      have e : i - d + d - d = i - d := by omega
      rw [e]
theorem rep_len {α : Type} {d : Nat} : ∀ (k : Nat) (ys : List α), ys.length = d → ((List.replicate k ys).flatten).length = k * d
  | 0, ys, _ => by simp
  | k + 1, ys, h => by rw [List.replicate_succ, List.flatten_cons, List.length_append, rep_len k ys h, h, Nat.succ_mul, Nat.add_comm]
theorem rep_iff {f : Nat → Bool} {d k n : Nat} (hd : 1 ≤ d) (hn : n = k * d) : (List.range n).map f = (List.replicate k ((List.range d).map f)).flatten ↔ ∀ i, i < n → f i = f (i % d) := by
  have hl : ((List.range d).map f).length = d := by simp
  constructor
  · intro e i hi
    have h1 : ((List.range n).map f)[i]? = some (f i) := by simp [hi]
    rw [e, rep_get hd k i _ hl (by rw [← hn]; exact hi)] at h1
    have h2 : i % d < d := Nat.mod_lt _ hd
    simp [h2] at h1
    exact h1.symm
  · intro e
    apply List.ext_getElem?
    intro i
    by_cases hi : i < n
    · rw [rep_get hd k i _ hl (by rw [← hn]; exact hi)]
      have h2 : i % d < d := Nat.mod_lt _ hd
      simp [hi, h2, e i hi]
    · rw [List.getElem?_eq_none (by simp; omega), List.getElem?_eq_none (by rw [rep_len k _ hl, ← hn]; omega)]
theorem per_mod {f : Nat → Bool} {s p d : Nat} (h : EP f s p) (hd : 1 ≤ d) (dv : d ∣ p) : (∀ i, i < p → f (s + i) = f (s + i % d)) ↔ EP f s d := by
  rw [← per_iff h hd dv]
  constructor
  · intro w a ha hb
    have e1 := w (a - s) (by omega)
    have e2 := w (a - s + d) (by omega)
    rw [Nat.add_mod_right] at e2
    have e3 : s + (a - s) = a := by omega
    have e4 : s + (a - s + d) = a + d := by omega
    rw [e3] at e1
    rw [e4] at e2
    rw [e1, e2]
  · intro w i hi
    have e := (per_iff h hd dv).mp w
    have m := e.mod (n := s + i) (by omega)
    have e1 : s + i - s = i := by omega
    rw [e1] at m
    exact m.symm
def divs (N : Nat) : List Nat := ((List.range N).filter fun k => decide (N % (1 + k) = 0)).map (1 + ·)
theorem mem_divs {N d : Nat} : d ∈ divs N ↔ 1 ≤ d ∧ d ≤ N ∧ N % d = 0 := by
  unfold divs
  rw [List.mem_map]
  constructor
  · rintro ⟨k, hk, rfl⟩
    obtain ⟨h1, h2⟩ := List.mem_filter.mp hk
    have := List.mem_range.mp h1
    exact ⟨by omega, by omega, of_decide_eq_true h2⟩
  · rintro ⟨h1, h2, h3⟩
    have e : 1 + (d - 1) = d := by omega
    exact ⟨d - 1, List.mem_filter.mpr ⟨List.mem_range.mpr (by omega), by rw [e]; exact decide_eq_true h3⟩, e⟩
theorem divs_pw (N : Nat) : (divs N).Pairwise (· < ·) := by
  unfold divs
  exact List.pairwise_map.mpr (List.Pairwise.imp (R := (· < ·)) (fun {a b} h => by omega) (List.Pairwise.filter _ List.pairwise_lt_range))
theorem find_divs {N : Nat} (hN : 1 ≤ N) {P : Nat → Bool} (hP : P N = true) : ∃ q, (divs N).find? P = some q ∧ 1 ≤ q ∧ q ≤ N ∧ q ∣ N ∧ P q = true ∧ ∀ c, 1 ≤ c → c < q → c ∣ N → P c = false := by
  cases h : (divs N).find? P with
  | none =>
    have := List.find?_eq_none.mp h N (mem_divs.mpr ⟨hN, Nat.le_refl _, Nat.mod_self _⟩)
    exact absurd hP this
  | some q =>
    obtain ⟨h1, as, bs, e, h2⟩ := List.find?_eq_some_iff_append.mp h
    obtain ⟨m1, m2, m3⟩ := mem_divs.mp (show q ∈ divs N by rw [e]; simp)
    refine ⟨q, rfl, m1, m2, Nat.dvd_of_mod_eq_zero m3, h1, fun c c1 c2 c3 => ?_⟩
    have hc : c ∈ divs N := mem_divs.mpr ⟨c1, by omega, Nat.mod_eq_zero_of_dvd c3⟩
    rw [e] at hc
    rcases List.mem_append.mp hc with z | z
    · simpa using h2 c z
    · have pw := divs_pw N
      rw [e] at pw
      have pw2 := (List.pairwise_append.mp pw).2.1
      rcases List.mem_cons.mp z with z | z
      · omega
      · have := (List.pairwise_cons.mp pw2).1 c z
        omega
theorem log2_small {n : Nat} (h : n ≤ 8000) : n.log2 < 9000 := Nat.lt_of_le_of_lt (Nat.log2_le_self n) (by omega)
theorem oDiv_v {a b : Nat} (h1 : 1 ≤ b) (h2 : b ≤ 8000) : oDiv (.int a) (.int b) = some (.int ((a / b : Nat) : Int)) := by
  unfold oDiv
  show (if 0 < (b : Int) ∧ ((b : Int)).natAbs.log2 < 9000 then some (D.int ((a : Int) / b)) else none) = _
  rw [if_pos ⟨by omega, by rw [Int.natAbs_natCast]; exact log2_small h2⟩, Int.natCast_ediv]
theorem oMul_rep {xs : List D} {k : Nat} (h : k ≤ 100000) (h2 : xs.length * k ≤ 16777216) : oMul (.lst xs) (.int k) = some (.lst (List.replicate k xs).flatten) := by
  unfold oMul
  show (if SmI (k : Int) ∧ xs.length * ((k : Int)).toNat ≤ 16777216 then some (D.lst (List.replicate ((k : Int)).toNat xs).flatten) else none) = _
  rw [Int.toNat_natCast, if_pos ⟨SmI.of (by omega), h2⟩]
/-- tal, when no member is left -/
theorem row_cut {f : Nat → Bool} {t s : Nat} (hts : t ≤ s) (h : ∀ n, t ≤ n → f n = false) : rowI f 0 s = rowI f 0 t := by
  refine pw_ext (rowI_pw _ _ _) (rowI_pw _ _ _) fun x => ?_
  rw [mem_rowI, mem_rowI]
  constructor
  · rintro ⟨i, h1, h2, h3, h4⟩
    by_cases c : i < t
    · exact ⟨i, h1, by omega, h3, h4⟩
    · rw [h i (by omega)] at h3; cases h3
  · rintro ⟨i, h1, h2, h3, h4⟩
    exact ⟨i, h1, by omega, h3, h4⟩
theorem row_last {f : Nat → Bool} {t : Nat} (h : f t = true) : rowI f 0 (t + 1) = rowI f 0 t ++ [(t : Int)] := by
  unfold rowI
  rw [List.range_succ, List.filter_append]
  simp [h]
theorem row_nil {f : Nat → Bool} {t : Nat} (h : f t = false) : rowI f t 1 = [] := by
  unfold rowI
  simp [List.range_succ, h]
theorem at_last (l : List D) (x : D) : atI (l ++ [x]) (-1) = some x := by
  unfold atI ixN
  rw [if_neg (by decide), if_pos (by simp; omega)]
  show (l ++ [x])[((-1 : Int) + ((l ++ [x]).length : Nat)).toNat]? = _
  have e : ((-1 : Int) + ((l ++ [x]).length : Nat)).toNat = l.length := by simp; omega
  rw [e]
  simp
theorem qn_lst0 (l : List Int) : oNe (.lst (l.map D.int)) (.lst []) = some (.bl !(decide (l = []))) := qn_lst l []
theorem qe_lst0 (l : List Int) : oEq (.lst (l.map D.int)) (.lst []) = some (.bl (decide (l = []))) := qe_lst l []
theorem qe_tup0 (l : List Int) : oEq (.tup (l.map D.int)) (.tup []) = some (.bl (decide (l = []))) := qe_tup l []
theorem qn_tup0 (l : List Int) : oNe (.tup (l.map D.int)) (.tup []) = some (.bl !(decide (l = []))) := qn_tup l []
theorem qn_nil : oNe (.lst []) (.lst []) = some (.bl false) := by
  have := qn_lst [] []
  simpa using this
theorem qe_nil : oEq (.lst []) (.lst []) = some (.bl true) := by
  have := qe_lst [] []
  simpa using this
theorem qe_nilT : oEq (.tup []) (.tup []) = some (.bl true) := by
  have := qe_tup [] []
  simpa using this
theorem qn_nilT : oNe (.tup []) (.tup []) = some (.bl false) := by
  have := qn_tup [] []
  simpa using this
theorem row_of {f : Nat → Bool} {lo n : Nat} (C : D → Bool) (h : ∀ k, k < n → C (.int ((lo : Int) + (k : Nat))) = f (lo + k)) : ((rngD lo n).filter C).map (fun d => d) = (rowI f lo n).map D.int := by
  rw [rng_fm]
  unfold rowI
  rw [List.map_map]
  have e : ((List.range n).filter fun k => C (.int ((lo : Int) + (k : Nat)))) = (List.range n).filter fun i => f (lo + i) := List.filter_congr fun k hk => h k (List.mem_range.mp hk)
  rw [e]
  refine List.map_congr_left fun k _ => ?_
  simp
theorem en_of (f : Nat → Bool) (s : Nat) : ((enD (flL f s)).filter fun d => match d with | .tup [_, .bl b] => b | _ => false).map (fun d => match d with | .tup [x, _] => x | _ => .non) = (rowI f 0 s).map D.int := by
  unfold enD rowI
  rw [flL_len]
  have e : (List.range s).map (fun k => D.tup [.int (k : Nat), (flL f s).getD k .non]) = (List.range s).map fun k => D.tup [.int (k : Nat), .bl (f k)] := by
    refine List.map_congr_left fun k hk => ?_
    have := List.mem_range.mp hk
    simp [flL, this]
  rw [e, List.filter_map, List.map_map, List.map_map]
  simp only [Nat.zero_add]
  rfl
theorem mem_en {f : Nat → Bool} {s : Nat} {x : D} (h : x ∈ enD (flL f s)) : ∃ k, k < s ∧ x = .tup [.int (k : Nat), .bl (f k)] := by
  unfold enD at h
  rw [flL_len] at h
  obtain ⟨k, hk, e⟩ := List.mem_map.mp h
  have := List.mem_range.mp hk
  exact ⟨k, this, by rw [← e]; simp [flL, this]⟩
theorem en_len (xs : List D) : (enD xs).length = xs.length := by simp [enD]
end DL
end
section
set_option Elab.async false
set_option linter.all false
set_option maxRecDepth 100000
set_option maxHeartbeats 400000
/-! VL4 -/
namespace DL
open PySem PySem.Spec L2 SetN
open PyProof.Rows hiding St
def dsc (p : Nat) : List Nat := (List.range p).map (p - ·)
theorem mem_dsc {p d : Nat} : d ∈ dsc p ↔ 1 ≤ d ∧ d ≤ p := by
  unfold dsc
  rw [List.mem_map]
  constructor
  · rintro ⟨k, hk, rfl⟩
    have := List.mem_range.mp hk
    omega
  · rintro ⟨h1, h2⟩
    exact ⟨p - d, List.mem_range.mpr (by omega), by omega⟩
theorem dsc_pw (p : Nat) : (dsc p).Pairwise (· > ·) := by
  unfold dsc
  refine List.pairwise_map.mpr (List.Pairwise.imp_of_mem (R := (· < ·)) (fun {a b} ha hb h => ?_) List.pairwise_lt_range)
  have := List.mem_range.mp ha
  have := List.mem_range.mp hb
  omega
theorem rngC_dsc (p : Nat) : rngC p (-1) p = (dsc p).map fun d => .int (d : Nat) := by
  unfold rngC dsc
  rw [List.map_map]
  refine List.map_congr_left fun k hk => ?_
  have := List.mem_range.mp hk
  show D.int ((p : Int) + (k : Nat) * -1) = D.int ((p - k : Nat) : Int)
  congr 1
  omega
theorem fold_g (G : Nat → Bool) : ∀ (ds : List Nat) (l : Nat), ds.Pairwise (· > ·) → (ds.foldl (fun l d => if G d then d else l) l = l ∧ ∀ c ∈ ds, G c = false) ∨
    (ds.foldl (fun l d => if G d then d else l) l ∈ ds ∧ G (ds.foldl (fun l d => if G d then d else l) l) = true ∧ ∀ c ∈ ds, G c = true → ds.foldl (fun l d => if G d then d else l) l ≤ c)
  | [], l, _ => .inl ⟨rfl, fun c hc => nomatch hc⟩
  | d :: ds, l, h => by
    obtain ⟨h1, h2⟩ := List.pairwise_cons.mp h
    rw [List.foldl_cons]
    rcases fold_g G ds (if G d then d else l) h2 with ⟨a, b⟩ | ⟨a, b, c⟩
    · rw [a]
      cases g : G d with
      | true =>
        refine .inr ⟨by simp, by simp [g], fun c hc gc => ?_⟩
        rcases List.mem_cons.mp hc with e | e
        · simp [e]
        · rw [b c e] at gc; cases gc
      | false =>
        refine .inl ⟨by simp, fun c hc => ?_⟩
        rcases List.mem_cons.mp hc with e | e
        · rw [e]; exact g
        · exact b c e
    · refine .inr ⟨List.mem_cons_of_mem _ a, b, fun x hx gx => ?_⟩
      rcases List.mem_cons.mp hx with e | e
      · have := h1 _ a
        omega
      · exact c x e gx
theorem fV_eq {b a : List Int} {s p n : Nat} : hasV b s p a (n : Nat) = fV b s p a n := rfl
end DL
end
section
set_option Elab.async false
set_option linter.all false
set_option maxRecDepth 100000
set_option maxHeartbeats 400000
/-! VL5 -/
namespace DL
open PySem PySem.Spec L2 SetN
open PyProof.Rows hiding St
theorem cut1 {α : Type} (xs : List α) : cutG xs (some 1) none = xs.drop 1 := by
  cases xs with
  | nil => rfl
  | cons x xs => exact cut_from (x :: xs) 1 (by simp)
def rowP (l m : Int) (ns : List Int) : Prop := ns.Pairwise (· < ·) ∧ ∀ x ∈ ns, l ≤ x ∧ x ≤ m
def incB (ns : List Int) : Bool := (List.zip ns (ns.drop 1)).all fun t => decide (t.1 < t.2)
theorem incB_iff : ∀ ns : List Int, incB ns = true ↔ ns.Pairwise (· < ·)
  | [] => by simp [incB]
  | [x] => by simp [incB]
  | x :: y :: ns => by
    have ih := incB_iff (y :: ns)
    unfold incB at ih ⊢
    rw [List.drop_one, List.tail_cons, List.zip_cons_cons, List.all_cons, Bool.and_eq_true]
    rw [List.drop_one, List.tail_cons] at ih
    rw [ih, decide_eq_true_iff]
    constructor
    · rintro ⟨h1, h2⟩
      refine List.pairwise_cons.mpr ⟨fun z hz => ?_, h2⟩
      rcases List.mem_cons.mp hz with e | e
      · rw [e]; exact h1
      · have := (List.pairwise_cons.mp h2).1 z e
        have h1 : x < y := h1
        omega
    · intro h
      obtain ⟨h1, h2⟩ := List.pairwise_cons.mp h
      exact ⟨h1 y List.mem_cons_self, h2⟩
theorem sort_iff (ns : List Int) : ns = sortI ns ↔ ns.Pairwise (· < ·) := ⟨fun e => by rw [e]; exact sortI_pw ns, fun h => pw_ext h (sortI_pw ns) fun x => mem_sortI.symm⟩
theorem oAll_bls (bs : List Bool) : oAll [.lst (bs.map D.bl)] = some (.bl (bs.all id)) := by
  show (asBls _).map _ = _
  rw [asBls_map] <;> rfl
theorem zp_ints (ns ms : List Int) : zpD (ns.map D.int) (ms.map D.int) = (List.zip ns ms).map fun t => .tup [.int t.1, .int t.2] := by
  unfold zpD
  rw [List.zip, List.map_zipWith]
  induction ns generalizing ms with
  | nil => simp
  | cons x ns ih => cases ms with
    | nil => simp
    | cons y ms => simp [ih]
theorem len4 {xs : List D} {x y z w : D} : (.int ((([x, y, z, w] : List D).length : Nat) : Int)) = D.int 4 := rfl
end DL
end
section
set_option Elab.async false
set_option linter.all false
set_option maxRecDepth 100000
set_option maxHeartbeats 400000
/-! VL6: members in order. -/
namespace DL
open PySem PySem.Spec L2 SetN
open PyProof.Rows hiding St
theorem row_add (f : Nat → Bool) (a b : Nat) : rowI f 0 (a + b) = rowI f 0 a ++ rowI f a b := by
  unfold rowI
  rw [List.range_add, List.filter_append, List.map_append, List.filter_map, List.map_map]
  simp [Function.comp_def]
theorem row_succ (f : Nat → Bool) (n : Nat) : rowI f 0 (n + 1) = rowI f 0 n ++ (if f n then [(n : Int)] else []) := by
  rw [row_add]
  congr 1
  unfold rowI
  cases h : f n <;> simp [List.range_succ, h]
theorem row_grow {f : Nat → Bool} {t q : Nat} (c : EP f t q) (h : rowI f t q ≠ []) : ∀ j, j ≤ (rowI f 0 (t + q * j)).length
  | 0 => Nat.zero_le _
  | j + 1 => by
    have ih := row_grow c h j
    rw [Nat.mul_succ, ← Nat.add_assoc, row_add, List.length_append]
    have : 1 ≤ (rowI f (t + q * j) q).length := by
      obtain ⟨x, hx⟩ := List.exists_mem_of_ne_nil _ h
      obtain ⟨i, i1, i2, i3, _⟩ := mem_rowI.mp hx
      refine List.length_pos_of_mem (a := ((i + q * j : Nat) : Int)) (mem_rowI.mpr ⟨i + q * j, by omega, by omega, ?_, rfl⟩)
      have := c.mul j i1
      rw [Nat.mul_comm q j, this]
      exact i3
    omega
/-- the turns of first_in's loop go on -/
def goOn (f : Nat → Bool) (many : Nat) (sz : Option Nat) (n : Nat) : Bool := decide ((rowI f 0 n).length < many) && (match sz with
  | none => true
  | some k => decide ((rowI f 0 n).length < k))
def szOf (f : Nat → Bool) (t q : Nat) : Option Nat := if rowI f t q = [] then some (rowI f 0 t).length else none
theorem no_more {f : Nat → Bool} {t q : Nat} (c : EP f t q) (h : rowI f t q = []) : ∀ n, t ≤ n → f n = false := fun n hn => by
  rw [← c.mod hn]
  cases e : f (t + (n - t) % q) with
  | false => rfl
  | true =>
    have lt := Nat.mod_lt (n - t) (show q > 0 from c.1)
    have : ((t + (n - t) % q : Nat) : Int) ∈ rowI f t q := mem_rowI.mpr ⟨_, by omega, by omega, e, rfl⟩
    rw [h] at this
    cases this
theorem first_stop {f : Nat → Bool} {t q : Nat} (c : EP f t q) (many : Nat) : ∃ N0, N0 ≤ t + q * many ∧ goOn f many (szOf f t q) N0 = false ∧ (∀ m, m < N0 → goOn f many (szOf f t q) m = true) ∧ ∀ N, t + q * many ≤ N → (rowI f 0 N).take many = rowI f 0 N0 := by
  have ex : ∃ n, n ≤ t + q * many ∧ goOn f many (szOf f t q) n = false := by
    unfold goOn szOf
    by_cases h : rowI f t q = []
    · exact ⟨t, Nat.le_add_right _ _, by simp [h]⟩
    · refine ⟨t + q * many, Nat.le_refl _, ?_⟩
      have := row_grow c h many
      have e : decide ((rowI f 0 (t + q * many)).length < many) = false := decide_eq_false (by omega)
      simp [e]
  obtain ⟨n1, h1, h2⟩ := ex
  obtain ⟨N0, g1, g2⟩ := exists_min (P := fun n => goOn f many (szOf f t q) n = false) ⟨n1, h2⟩
  have le := g2 n1 h2
  have before : ∀ m, m < N0 → goOn f many (szOf f t q) m = true := fun m hm => by
    cases e : goOn f many (szOf f t q) m with
    | true => rfl
    | false => exact absurd (g2 m e) (by omega)
  refine ⟨N0, by omega, g1, before, fun N hN => ?_⟩
  have len : (rowI f 0 N0).length ≤ many := by
    cases N0 with
    | zero => simp [rowI]
    | succ m =>
      have := before m (by omega)
      unfold goOn at this
      have h := of_decide_eq_true (Bool.and_eq_true_iff.mp this).1
      rw [row_succ, List.length_append]
      cases f m <;> simp <;> omega
  obtain ⟨d, rfl⟩ : ∃ d, N = N0 + d := ⟨N - N0, by omega⟩
  unfold goOn at g1
  rcases Bool.and_eq_false_iff.mp g1 with e | e
  · have e := of_decide_eq_false e
    rw [row_add]
    exact List.take_left' (by omega)
  · by_cases h : rowI f t q = []
    · unfold szOf at e
      rw [if_pos h] at e
      have e := of_decide_eq_false e
      have hz := no_more c h
      have r1 : rowI f 0 (N0 + d) = rowI f 0 t := row_cut (by omega) hz
      have r2 := row_add f N0 d
      have r3 : rowI f N0 d = [] := by
        have : (rowI f 0 (N0 + d)).length = (rowI f 0 N0).length + (rowI f N0 d).length := by rw [r2, List.length_append]
        rw [r1] at this
        exact List.length_eq_zero_iff.mp (by omega)
      rw [r2, r3, List.append_nil]
      exact List.take_of_length_le len
    · unfold szOf at e
      rw [if_neg h] at e
      cases e
/-- rests of a set that comes round -/
theorem rests_eq {f : Nat → Bool} {t q m N : Nat} (c : EP f t q) (hm : 1 ≤ m) (hN : t + q * m ≤ N) : sortI ((rowI f 0 (t + q * m)).map (· % (m : Int))) = sortI ((rowI f 0 N).map (· % (m : Int))) := by
  refine pw_ext (sortI_pw _) (sortI_pw _) fun x => ?_
  rw [mem_sortI, mem_sortI, List.mem_map, List.mem_map]
  constructor
  · rintro ⟨y, hy, rfl⟩
    obtain ⟨i, i1, i2, i3, rfl⟩ := mem_rowI.mp hy
    exact ⟨_, mem_rowI.mpr ⟨i, i1, by omega, i3, rfl⟩, rfl⟩
  · rintro ⟨y, hy, rfl⟩
    obtain ⟨i, i1, i2, i3, rfl⟩ := mem_rowI.mp hy
    by_cases h : i < t + q * m
    · exact ⟨_, mem_rowI.mpr ⟨i, i1, by omega, i3, rfl⟩, rfl⟩
    · have c2 : EP f t (m * q) := c.times hm
      have e := c2.mod (n := i) (by omega)
      have lt := Nat.mod_lt (i - t) (show m * q > 0 from c2.1)
      rw [Nat.mul_comm q m]
      refine ⟨_, mem_rowI.mpr ⟨t + (i - t) % (m * q), by omega, by omega, by rw [e]; exact i3, rfl⟩, ?_⟩
      have e2 : (t + (i - t) % (m * q)) % m = i % m := by
        rw [Nat.add_mod, Nat.mod_mul_right_mod, ← Nat.add_mod]
        congr 1
        omega
      show ((t + (i - t) % (m * q) : Nat) : Int) % (m : Int) = (i : Int) % (m : Int)
      rw [← Int.natCast_emod, ← Int.natCast_emod, e2]
end DL
end
section
set_option Elab.async false
set_option linter.all false
set_option maxRecDepth 100000
set_option maxHeartbeats 4000000
namespace K14
open PySem PySem.Spec L2 DL
open PyProof.Rows hiding St
abbrev k_EMPTY : D := .tup [.tup [], .int 0, .int 1, .tup []]
abbrev k_LONGEST : Int := 1000000000000000000000000000000000000000000000000000000000000
abbrev k_MAX_BOUND : Int := 4000
abbrev k_MAX_MEMBERS : Int := 1000
def hnd__law_met : Er → Option D
  | .fl C f x => if C = "TooMany" ∧ f = "limit" then (some x) else none
  | .pl C => none
/-- is_integer ['value']: slots 0 value -/
def g_is_integer : MS := (sRet (dAndV (dIsi "int" (dVar 0)) (dAndV (dNotV (dIsi "bool" (dVar 0))) (dChain oLt oLt (dUn oNeg (dK (.int k_LONGEST))) (dVar 0) (dK (.int
  k_LONGEST))))))
def c_is_integer : Con := conOf 1 1 g_is_integer
/-- has_in ['tally', 'number']: slots 0 tally 1 number 2 below 3 start 4 period 5 above -/
def g_has_in : MS := (sSeq (sAsgT (tgT 4 (tgCons (tgN 2) (tgCons (tgN 3) (tgCons (tgN 4) (tgCons (tgN 5) tgNil))))) (dVar 0)) (sSeq (sIf (dB (dOp oLt (dVar 1) (dVar 3))) (sRet (dOp
  oIn (dVar 1) (dVar 2))) sNil) (sRet (dOp oIn (dOp oAdd (dVar 3) (dOp oMod (dOp oSub (dVar 1) (dVar 3)) (dVar 4))) (dVar 5)))))
def c_has_in : Con := conOf 2 6 g_has_in
/-- divisors_of ['number']: slots 0 number 1 one -/
def l_divisors_of_0 : M (List D) := (dLc (dRng2 (dK (.int 1)) (dOp oAdd (dVar 0) (dK (.int 1)))) (tgN 1) (dB (dOp oEq (dOp oMod (dVar 0) (dVar 1)) (dK (.int 0)))) (dVar 1) [1])
def g_divisors_of : MS := (sRet (dFz l_divisors_of_0))
def c_divisors_of : Con := conOf 1 2 g_divisors_of
/-- common_multiple ['one', 'other']: slots 0 one 1 other 2 left 3 right -/
def t_common_multiple_0 : M Bool := (dB (dOp oNe (dVar 3) (dK (.int 0))))
def b_common_multiple_1 : MS := (sPar2 2 3 (xD (dVar 3) (xD (dOp oMod (dVar 2) (dVar 3)) xNil)))
def g_common_multiple : MS := (sSeq (sPar2 2 3 (xD (dVar 0) (xD (dVar 1) xNil))) (sSeq (wh t_common_multiple_0 b_common_multiple_1 100000) (sRet (dOp oMul (dOp oDiv (dVar 0) (dVar
  2)) (dVar 1)))))
def c_common_multiple : Con := conOf 2 4 g_common_multiple
/-- sums_of ['one', 'other']: slots 0 one 1 other 2 size 3 found 4 at 5 flag 6 some 7 spot -/
def b_sums_of_0 : MS := (sIf (dB (dOp oLt (dOp oAdd (dVar 4) (dVar 7)) (dVar 2))) (sSetIx 3 (dOp oAdd (dVar 4) (dVar 7)) (dK (.bl true))) sNil)
def b_sums_of_1 : MS := (sIf (dTst (dVar 5)) (sFor (dIt (dVar 6)) (tgN 7) b_sums_of_0) sNil)
def l_sums_of_2 : M (List D) := (dLc (dEn (dVar 1)) (tgT 2 (tgCons (tgN 4) (tgCons (tgN 5) tgNil))) (dTst (dVar 5)) (dVar 4) [4, 5])
def g_sums_of : MS := (sSeq (sPar2 2 3 (xD (dCallB oLen (dCons (dVar 0) dNil)) (xO (dOpO oRep (dFz (dLst (dCons (dK (.bl false)) dNil))) (dCallB oLen (dCons (dVar 0) dNil)))
  xNil))) (sSeq (sSetD 6 (dFz l_sums_of_2)) (sSeq (sFor (dEn (dVar 0)) (tgT 2 (tgCons (tgN 4) (tgCons (tgN 5) tgNil))) b_sums_of_1) (sRet (dVar 3)))))
def c_sums_of : Con := conOf 2 8 g_sums_of
/-- _law_dice ['script', 'spot']: slots 0 script 1 spot 2 cell 3 great 4 blend -/
def g__law_dice : MS := (sSeq (sSetD 2 (dOp oAdd (dOp oMul (dK (.int 59)) (dVar 1)) (dK (.int 31)))) (sSeq (sIf (dB (dOp oLt (dVar 1) (dCallB oLen (dCons (dVar 0) dNil)))) (sSetD 2
  (dOp oIx (dVar 0) (dVar 1))) sNil) (sSeq (sSetD 3 (dOp oMod (dCallB oInt (dCons (dCallB oAbs (dCons (dVar 2) dNil)) dNil)) (dOp oPow (dOp oPow (dK (.int 10)) (dK (.int 60))) (dK
  (.int 10))))) (sSeq (sSetD 4 (dOp oAdd (dOp oAdd (dOp oAdd (dOp oMul (dOp oMod (dCallB oInt (dCons (dVar 3) dNil)) (dK (.int 2305843009213693669))) (dK (.int 1000393))) (dOp oMul
  (dK (.int 8069)) (dVar 1))) (dOp oMul (dK (.int 47)) (dCallB oInt (dCons (dOp oLt (dVar 2) (dK (.int 0))) dNil)))) (dK (.int 41)))) (sRetO (dLst (dCons (dCallB oMax (dCons (dK
  (.int 0)) (dCons (dOp oSub (dVar 3) (dOp oPow (dK (.int 10)) (dK (.int 18)))) dNil))) (dCons (dOp oMod (dCallB oInt (dCons (dVar 4) dNil)) (dK (.int 2305843009213693669))) (dCons
  (dK (.int 0)) dNil)))))))))
def c__law_dice : Con := conOf 2 5 g__law_dice
/-- _law_roll ['dice', 'total']: slots 0 dice 1 total 2 found 3 one 4 two -/
def g__law_roll : MS := (sSeq (sIf (dB (dOp oGt (dOp oIx (dVar 0) (dK (.int 0))) (dK (.int 0)))) (sSeq (sSetD 2 (dOp oMod (dCallB oInt (dCons (dOp oIx (dVar 0) (dK (.int 0)))
  dNil)) (dVar 1))) (sSeq (sSetIx 0 (dK (.int 0)) (dOp oDiv (dOp oIx (dVar 0) (dK (.int 0))) (dVar 1))) (sRet (dVar 2)))) sNil) (sSeq (sSetIx 0 (dK (.int 2)) (dOp oAdd (dOp oIx
  (dVar 0) (dK (.int 2))) (dK (.int 1)))) (sSeq (sSetD 3 (dOp oMod (dCallB oInt (dCons (dOp oAdd (dOp oIx (dVar 0) (dK (.int 1))) (dOp oMul (dK (.int 998244293)) (dOp oIx (dVar 0)
  (dK (.int 2))))) dNil)) (dK (.int 2305843009213693951)))) (sSeq (sSetD 4 (dOp oAdd (dOp oMul (dOp oMod (dCallB oInt (dCons (dOp oMul (dVar 3) (dVar 3)) dNil)) (dK (.int
  2305843009213693921))) (dVar 3)) (dOp oMul (dK (.int 9413)) (dOp oIx (dVar 0) (dK (.int 2)))))) (sSeq (sSetD 4 (dOp oMod (dCallB oInt (dCons (dVar 4) dNil)) (dK (.int
  2305843009213693669)))) (sRet (dOp oMod (dCallB oInt (dCons (dOp oDiv (dVar 4) (dK (.int 8192))) dNil)) (dVar 1))))))))
def c__law_roll : Con := conOf 2 5 g__law_roll
/-- _law_tl_has ['tally', 'number']: slots 0 tally 1 number 2 below 3 start 4 period 5 above -/
def g__law_tl_has : MS := (sSeq (sAsgT (tgT 4 (tgCons (tgN 2) (tgCons (tgN 3) (tgCons (tgN 4) (tgCons (tgN 5) tgNil))))) (dVar 0)) (sRet (dIf (dB (dOp oLt (dVar 1) (dVar 3))) (dOp
  oIn (dVar 1) (dVar 2)) (dOp oIn (dOp oAdd (dVar 3) (dOp oMod (dOp oSub (dVar 1) (dVar 3)) (dVar 4))) (dVar 5)))))
def c__law_tl_has : Con := conOf 2 6 g__law_tl_has
/-- _law_tl_least ['flags', 'start', 'period']: slots 0 flags 1 start 2 period 3 least 4 one 5 same 6 first 7 whole 8 below 9 at -/
def l__law_tl_least_0 : M (List D) := (dLc (dRng2 (dVar 6) (dOp oAdd (dVar 6) (dVar 3))) (tgN 9) (dTst (dOp oIx (dVar 7) (dVar 9))) (dVar 9) [9])
def l__law_tl_least_1 : M (List D) := (dLc (dRng1 (dVar 6)) (tgN 9) (dTst (dOp oIx (dVar 7) (dVar 9))) (dVar 9) [9])
def t__law_tl_least_2 : M Bool := (dAnd (dB (dOp oGt (dVar 6) (dK (.int 0)))) (dB (dOp oEq (dOp oIx (dVar 7) (dOp oSub (dVar 6) (dK (.int 1)))) (dOp oIx (dVar 7) (dOp oAdd (dOp
  oSub (dVar 6) (dK (.int 1))) (dVar 3))))))
def b__law_tl_least_3 : MS := (sSetD 6 (dOp oSub (dVar 6) (dK (.int 1))))
def l__law_tl_least_4 : M (List D) := (dLc (dRng2 (dVar 1) (dOp oSub (dOp oAdd (dVar 1) (dVar 2)) (dVar 4))) (tgN 9) (dB (dOp oNe (dOp oIx (dVar 0) (dVar 9)) (dOp oIx (dVar 0) (dOp
  oAdd (dVar 9) (dVar 4))))) (dVar 9) [9])
def b__law_tl_least_5 : MS := (sSeq (sSetD 5 (dFz l__law_tl_least_4)) (sSetD 3 (dIf (dAnd (dB (dOp oEq (dOp oMod (dVar 2) (dVar 4)) (dK (.int 0)))) (dB (dOp oEq (dVar 5) (dFz (dLst
  dNil))))) (dVar 4) (dVar 3))))
def g__law_tl_least : MS := (sSeq (sSetD 3 (dK (.int 0))) (sSeq (sFor (dRngN (dVar 2) (dK (.int 0)) (dUn oNeg (dK (.int 1)))) (tgN 4) b__law_tl_least_5) (sSeq (sAsgT (tgT 2 (tgCons
  (tgN 6) (tgCons (tgN 7) tgNil))) (dTup (dCons (dVar 1) (dCons (dFz (dCallO oList (dCons (dVar 0) dNil))) dNil)))) (sSeq (wh t__law_tl_least_2 b__law_tl_least_3 100000) (sSeq
  (sSetD 8 (dCallB oTuple (dCons (dFz l__law_tl_least_1) dNil))) (sRet (dTup (dCons (dVar 8) (dCons (dVar 6) (dCons (dVar 3) (dCons (dCallB oTuple (dCons (dFz l__law_tl_least_0)
  dNil)) dNil)))))))))))
def c__law_tl_least : Con := conOf 3 10 g__law_tl_least
/-- _law_multiple ['one', 'other']: slots 0 one 1 other 2 found -/
def t__law_multiple_0 : M Bool := (dB (dOp oNe (dOp oMod (dVar 2) (dVar 1)) (dK (.int 0))))
def b__law_multiple_1 : MS := (sSetD 2 (dOp oAdd (dVar 2) (dVar 0)))
def g__law_multiple : MS := (sSeq (sSetD 2 (dVar 0)) (sSeq (wh t__law_multiple_0 b__law_multiple_1 100000) (sRet (dVar 2))))
def c__law_multiple : Con := conOf 2 3 g__law_multiple
/-- is_within ['value', 'least', 'most']: slots 0 value 1 least 2 most -/
def g_is_within : MS := (sRet (dAndV (dCall [false] c_is_integer (dCons (dVar 0) dNil)) (dChain oLe oLe (dVar 1) (dVar 0) (dVar 2))))
def c_is_within : Con := conOf 3 3 g_is_within
/-- least_period ['flags']: slots 0 flags 1 size 2 one -/
def b_least_period_0 : MS := (sIf (dB (dOp oEq (dVar 0) (dOp oMul (dSl oSl (dVar 0) dNo (dSo (dVar 2))) (dOp oDiv (dVar 1) (dVar 2))))) (sRet (dVar 2)) sNil)
def g_least_period : MS := (sSeq (sSetD 1 (dCallB oLen (dCons (dVar 0) dNil))) (sSeq (sFor (dIt (dCall [false] c_divisors_of (dCons (dVar 1) dNil))) (tgN 2) b_least_period_0) (sRet
  (dVar 1))))
def c_least_period : Con := conOf 1 3 g_least_period
/-- flags_in ['tally', 'size']: slots 0 tally 1 size 2 number -/
def l_flags_in_0 : M (List D) := (dLc (dRng1 (dVar 1)) (tgN 2) dYes (dCall [false, false] c_has_in (dCons (dVar 0) (dCons (dVar 2) dNil))) [2])
def g_flags_in : MS := (sRet (dFz l_flags_in_0))
def c_flags_in : Con := conOf 2 3 g_flags_in
/-- _law_pick ['dice', 'items']: slots 0 dice 1 items -/
def g__law_pick : MS := (sRet (dOp oIx (dVar 1) (dCall [true, false] c__law_roll (dCons (dVar 0) (dCons (dCallB oLen (dCons (dVar 1) dNil)) dNil)))))
def c__law_pick : Con := conOf 2 2 g__law_pick
/-- _law_tl_of ['below', 'start', 'period', 'above']: slots 0 below 1 start 2 period 3 above 4 flags 5 at -/
def l__law_tl_of_0 : M (List D) := (dLc (dRng1 (dOp oAdd (dVar 1) (dVar 2))) (tgN 5) dYes (dCall [false, false] c__law_tl_has (dCons (dTup (dCons (dVar 0) (dCons (dVar 1) (dCons
  (dVar 2) (dCons (dVar 3) dNil))))) (dCons (dVar 5) dNil))) [5])
def g__law_tl_of : MS := (sSeq (sSetD 4 (dFz l__law_tl_of_0)) (sRet (dCall [false, false, false] c__law_tl_least (dCons (dVar 4) (dCons (dVar 1) (dCons (dVar 2) dNil))))))
def c__law_tl_of : Con := conOf 4 6 g__law_tl_of
/-- _law_flags ['tally', 'size']: slots 0 tally 1 size 2 at -/
def l__law_flags_0 : M (List D) := (dLc (dRng1 (dVar 1)) (tgN 2) dYes (dCall [false, false] c__law_tl_has (dCons (dVar 0) (dCons (dVar 2) dNil))) [2])
def g__law_flags : MS := (sRet (dFz l__law_flags_0))
def c__law_flags : Con := conOf 2 3 g__law_flags
/-- is_row_within ['value', 'least', 'most']: slots 0 value 1 least 2 most 3 one 4 other -/
def l_is_row_within_0 : M (List D) := (dLc (dIt (dFz (dZipT (dVar 0) (dSl oSl (dVar 0) (dSo (dK (.int 1))) dNo)))) (tgT 2 (tgCons (tgN 3) (tgCons (tgN 4) tgNil))) dYes (dOp oLt
  (dVar 3) (dVar 4)) [3, 4])
def l_is_row_within_1 : M (List D) := (dLc (dIt (dVar 0)) (tgN 3) dYes (dCall [false, false, false] c_is_within (dCons (dVar 3) (dCons (dVar 1) (dCons (dVar 2) dNil)))) [3])
def g_is_row_within : MS := (sSeq (sIf (dOr (dNot (dTst (dIsi "tuple" (dVar 0)))) (dNot (dTst (dCallB oAll (dCons (dFz l_is_row_within_1) dNil))))) (sRet (dK (.bl false))) sNil)
  (sRet (dCallB oAll (dCons (dFz l_is_row_within_0) dNil))))
def c_is_row_within : Con := conOf 3 5 g_is_row_within
/-- tally_of_flags ['flags', 'start']: slots 0 flags 1 start 2 behind 3 some 4 period 5 below 6 at 7 flag -/
def l_tally_of_flags_0 : M (List D) := (dLc (dRng2 (dVar 1) (dOp oAdd (dVar 1) (dVar 4))) (tgN 6) (dTst (dOp oIx (dVar 0) (dVar 6))) (dVar 6) [6])
def l_tally_of_flags_1 : M (List D) := (dLc (dRng1 (dVar 1)) (tgN 6) (dTst (dOp oIx (dVar 0) (dVar 6))) (dVar 6) [6])
def t_tally_of_flags_2 : M Bool := (dAnd (dB (dOp oGt (dVar 1) (dK (.int 0)))) (dB (dOp oEq (dOp oIx (dVar 0) (dOp oSub (dVar 1) (dK (.int 1)))) (dOp oIx (dVar 0) (dOp oAdd (dOp
  oSub (dVar 1) (dK (.int 1))) (dVar 4))))))
def b_tally_of_flags_3 : MS := (sSetD 1 (dOp oSub (dVar 1) (dK (.int 1))))
def l_tally_of_flags_4 : M (List D) := (dLc (dEn (dSl oSl (dVar 0) dNo (dSo (dVar 1)))) (tgT 2 (tgCons (tgN 6) (tgCons (tgN 7) tgNil))) (dTst (dVar 7)) (dVar 6) [6, 7])
def g_tally_of_flags : MS := (sSeq (sSetD 2 (dSl oSl (dVar 0) (dSo (dVar 1)) dNo)) (sSeq (sIf (dNot (dTst (dCallB oAny (dCons (dVar 2) dNil)))) (sSeq (sSetD 3 (dFz
  l_tally_of_flags_4)) (sRet (dTup (dCons (dCallB oTuple (dCons (dVar 3) dNil)) (dCons (dIf (dB (dOp oNe (dVar 3) (dFz (dLst dNil)))) (dOp oAdd (dOp oIx (dVar 3) (dUn oNeg (dK
  (.int 1)))) (dK (.int 1))) (dK (.int 0))) (dCons (dK (.int 1)) (dCons (dTup dNil) dNil))))))) sNil) (sSeq (sSetD 4 (dCall [false] c_least_period (dCons (dVar 2) dNil))) (sSeq (wh
  t_tally_of_flags_2 b_tally_of_flags_3 100000) (sSeq (sSetD 5 (dCallB oTuple (dCons (dFz l_tally_of_flags_1) dNil))) (sRet (dTup (dCons (dVar 5) (dCons (dVar 1) (dCons (dVar 4)
  (dCons (dCallB oTuple (dCons (dFz l_tally_of_flags_0) dNil)) dNil)))))))))))
def c_tally_of_flags : Con := conOf 2 8 g_tally_of_flags
/-- require_from ['number', 'least', 'most']: slots 0 number 1 least 2 most -/
def g_require_from : MS := (sIf (dNot (dTst (dCall [false, false, false] c_is_within (dCons (dVar 0) (dCons (dVar 1) (dCons (dVar 2) dNil)))))) (sRaiseF "InvalidNumber" "number"
  (dVar 0)) sNil)
def c_require_from : Con := conOf 3 3 g_require_from
/-- require_bound ['number']: slots 0 number -/
def g_require_bound : MS := (sIf (dB (dOp oGt (dVar 0) (dK (.int k_MAX_BOUND)))) (sRaiseF "TooMany" "limit" (dK (.int k_MAX_BOUND))) sNil)
def c_require_bound : Con := conOf 1 1 g_require_bound
/-- _law_set ['dice', 'most']: slots 0 dice 1 most 2 start 3 period 4 below 5 above 6 at -/
def l__law_set_0 : M (List D) := (dLc (dRng2 (dVar 2) (dOp oAdd (dVar 2) (dVar 3))) (tgN 6) (dB (dOp oEq (dCall [true, false] c__law_roll (dCons (dVar 0) (dCons (dK (.int 3))
  dNil))) (dK (.int 0)))) (dVar 6) [6])
def l__law_set_1 : M (List D) := (dLc (dRng1 (dVar 2)) (tgN 6) (dB (dOp oEq (dCall [true, false] c__law_roll (dCons (dVar 0) (dCons (dK (.int 2)) dNil))) (dK (.int 0)))) (dVar 6)
  [6])
def g__law_set : MS := (sSeq (sPar2 2 3 (xD (dCall [true, false] c__law_roll (dCons (dVar 0) (dCons (dK (.int 7)) dNil))) (xD (dOp oAdd (dK (.int 1)) (dCall [true, false]
  c__law_roll (dCons (dVar 0) (dCons (dVar 1) dNil)))) xNil))) (sSeq (sSetD 4 (dCallB oTuple (dCons (dFz l__law_set_1) dNil))) (sSeq (sSetD 5 (dCallB oTuple (dCons (dFz
  l__law_set_0) dNil))) (sRet (dCall [false, false, false, false] c__law_tl_of (dCons (dVar 4) (dCons (dVar 2) (dCons (dVar 3) (dCons (dVar 5) dNil)))))))))
def c__law_set : Con := conOf 2 7 g__law_set
/-- is_told_set ['below', 'start', 'period', 'above']: slots 0 below 1 start 2 period 3 above -/
def g_is_told_set : MS := (sSeq (sIf (dOr (dNot (dTst (dCall [false, false, false] c_is_within (dCons (dVar 1) (dCons (dK (.int 0)) (dCons (dK (.int k_MAX_BOUND)) dNil)))))) (dNot
  (dTst (dCall [false, false, false] c_is_within (dCons (dVar 2) (dCons (dK (.int 1)) (dCons (dK (.int k_MAX_BOUND)) dNil))))))) (sRet (dK (.bl false))) sNil) (sRet (dAndV (dCall
  [false, false, false] c_is_row_within (dCons (dVar 0) (dCons (dK (.int 0)) (dCons (dOp oSub (dVar 1) (dK (.int 1))) dNil)))) (dCall [false, false, false] c_is_row_within (dCons
  (dVar 3) (dCons (dVar 1) (dCons (dOp oSub (dOp oAdd (dVar 1) (dVar 2)) (dK (.int 1))) dNil)))))))
def c_is_told_set : Con := conOf 4 4 g_is_told_set
/-- least_in ['tally']: slots 0 tally 1 start 2 period -/
def g_least_in : MS := (sSeq (sPar2 1 2 (xD (dOp oIx (dVar 0) (dK (.int 1))) (xD (dOp oIx (dVar 0) (dK (.int 2))) xNil))) (sRet (dCall [false, false] c_tally_of_flags (dCons (dCall
  [false, false] c_flags_in (dCons (dVar 0) (dCons (dOp oAdd (dVar 1) (dVar 2)) dNil))) (dCons (dVar 1) dNil)))))
def c_least_in : Con := conOf 1 3 g_least_in
/-- either_in ['one', 'other']: slots 0 one 1 other 2 start 3 period 4 flags 5 left 6 right -/
def l_either_in_0 : M (List D) := (dLc (dZp (dCall [false, false] c_flags_in (dCons (dVar 0) (dCons (dOp oAdd (dVar 2) (dVar 3)) dNil))) (dCall [false, false] c_flags_in (dCons
  (dVar 1) (dCons (dOp oAdd (dVar 2) (dVar 3)) dNil)))) (tgT 2 (tgCons (tgN 5) (tgCons (tgN 6) tgNil))) dYes (dOrV (dVar 5) (dVar 6)) [5, 6])
def g_either_in : MS := (sSeq (sPar2 2 3 (xD (dCallB oMax (dCons (dOp oIx (dVar 0) (dK (.int 1))) (dCons (dOp oIx (dVar 1) (dK (.int 1))) dNil))) (xD (dCall [false, false]
  c_common_multiple (dCons (dOp oIx (dVar 0) (dK (.int 2))) (dCons (dOp oIx (dVar 1) (dK (.int 2))) dNil))) xNil))) (sSeq (sExpr (dCall [false] c_require_bound (dCons (dOp oAdd
  (dVar 2) (dVar 3)) dNil))) (sSeq (sSetD 4 (dFz l_either_in_0)) (sRet (dCall [false, false] c_tally_of_flags (dCons (dVar 4) (dCons (dVar 2) dNil)))))))
def c_either_in : Con := conOf 2 7 g_either_in
/-- moved_in ['tally', 'number']: slots 0 tally 1 number 2 start 3 period -/
def g_moved_in : MS := (sSeq (sPar2 2 3 (xD (dOp oAdd (dOp oIx (dVar 0) (dK (.int 1))) (dVar 1)) (xD (dOp oIx (dVar 0) (dK (.int 2))) xNil))) (sSeq (sExpr (dCall [false]
  c_require_bound (dCons (dOp oAdd (dVar 2) (dVar 3)) dNil))) (sRet (dCall [false, false] c_tally_of_flags (dCons (dOp oAdd (dOp oMul (dFz (dLst (dCons (dK (.bl false)) dNil)))
  (dVar 1)) (dCall [false, false] c_flags_in (dCons (dVar 0) (dCons (dOp oAdd (dOp oIx (dVar 0) (dK (.int 1))) (dVar 3)) dNil)))) (dCons (dVar 2) dNil))))))
def c_moved_in : Con := conOf 2 4 g_moved_in
/-- added_in ['one', 'other']: slots 0 one 1 other 2 period 3 start -/
def g_added_in : MS := (sSeq (sSetD 2 (dCall [false, false] c_common_multiple (dCons (dOp oIx (dVar 0) (dK (.int 2))) (dCons (dOp oIx (dVar 1) (dK (.int 2))) dNil)))) (sSeq (sSetD
  3 (dOp oAdd (dOp oAdd (dOp oIx (dVar 0) (dK (.int 1))) (dOp oIx (dVar 1) (dK (.int 1)))) (dVar 2))) (sSeq (sExpr (dCall [false] c_require_bound (dCons (dOp oAdd (dVar 3) (dVar
  2)) dNil))) (sRet (dCall [false, false] c_tally_of_flags (dCons (dCall [false, false] c_sums_of (dCons (dCall [false, false] c_flags_in (dCons (dVar 0) (dCons (dOp oAdd (dVar 3)
  (dVar 2)) dNil))) (dCons (dCall [false, false] c_flags_in (dCons (dVar 1) (dCons (dOp oAdd (dVar 3) (dVar 2)) dNil))) dNil))) (dCons (dVar 3) dNil)))))))
def c_added_in : Con := conOf 2 4 g_added_in
/-- is_tally ['value']: slots 0 value -/
def g_is_tally : MS := (sSeq (sIf (dOr (dNot (dTst (dIsi "tuple" (dVar 0)))) (dOr (dB (dOp oNe (dCallB oLen (dCons (dVar 0) dNil)) (dK (.int 4)))) (dNot (dTst (dCall [false, false,
  false, false] c_is_told_set (dCons (dOp oIx (dVar 0) (dK (.int 0))) (dCons (dOp oIx (dVar 0) (dK (.int 1))) (dCons (dOp oIx (dVar 0) (dK (.int 2))) (dCons (dOp oIx (dVar 0) (dK
  (.int 3))) dNil))))))))) (sRet (dK (.bl false))) sNil) (sRet (dAndV (dOp oLe (dOp oAdd (dOp oIx (dVar 0) (dK (.int 1))) (dOp oIx (dVar 0) (dK (.int 2)))) (dK (.int k_MAX_BOUND)))
  (dOp oEq (dCall [false] c_least_in (dCons (dVar 0) dNil)) (dVar 0)))))
def c_is_tally : Con := conOf 1 1 g_is_tally
/-- tally_of ['below', 'start', 'period', 'above']: slots 0 below 1 start 2 period 3 above -/
def g_tally_of : MS := (sSeq (sIf (dOr (dNot (dTst (dCall [false, false, false, false] c_is_told_set (dCons (dVar 0) (dCons (dVar 1) (dCons (dVar 2) (dCons (dVar 3) dNil))))))) (dB
  (dOp oGt (dOp oAdd (dVar 1) (dVar 2)) (dK (.int k_MAX_BOUND))))) (sRaiseP "InvalidOperation") sNil) (sRet (dCall [false] c_least_in (dCons (dTup (dCons (dVar 0) (dCons (dVar 1)
  (dCons (dVar 2) (dCons (dVar 3) dNil))))) dNil))))
def c_tally_of : Con := conOf 4 4 g_tally_of
/-- require_tally ['value']: slots 0 value -/
def g_require_tally : MS := (sIf (dNot (dTst (dCall [false] c_is_tally (dCons (dVar 0) dNil)))) (sRaiseP "InvalidOperation") sNil)
def c_require_tally : Con := conOf 1 1 g_require_tally
/-- either ['one', 'other']: slots 0 one 1 other -/
def g_either : MS := (sSeq (sExpr (dCall [false] c_require_tally (dCons (dVar 0) dNil))) (sSeq (sExpr (dCall [false] c_require_tally (dCons (dVar 1) dNil))) (sRet (dCall [false,
  false] c_either_in (dCons (dVar 0) (dCons (dVar 1) dNil))))))
def c_either : Con := conOf 2 2 g_either
/-- both ['one', 'other']: slots 0 one 1 other 2 start 3 period 4 flags 5 left 6 right -/
def l_both_0 : M (List D) := (dLc (dZp (dCall [false, false] c_flags_in (dCons (dVar 0) (dCons (dOp oAdd (dVar 2) (dVar 3)) dNil))) (dCall [false, false] c_flags_in (dCons (dVar 1)
  (dCons (dOp oAdd (dVar 2) (dVar 3)) dNil)))) (tgT 2 (tgCons (tgN 5) (tgCons (tgN 6) tgNil))) dYes (dAndV (dVar 5) (dVar 6)) [5, 6])
def g_both : MS := (sSeq (sExpr (dCall [false] c_require_tally (dCons (dVar 0) dNil))) (sSeq (sExpr (dCall [false] c_require_tally (dCons (dVar 1) dNil))) (sSeq (sPar2 2 3 (xD
  (dCallB oMax (dCons (dOp oIx (dVar 0) (dK (.int 1))) (dCons (dOp oIx (dVar 1) (dK (.int 1))) dNil))) (xD (dCall [false, false] c_common_multiple (dCons (dOp oIx (dVar 0) (dK
  (.int 2))) (dCons (dOp oIx (dVar 1) (dK (.int 2))) dNil))) xNil))) (sSeq (sExpr (dCall [false] c_require_bound (dCons (dOp oAdd (dVar 2) (dVar 3)) dNil))) (sSeq (sSetD 4 (dFz
  l_both_0)) (sRet (dCall [false, false] c_tally_of_flags (dCons (dVar 4) (dCons (dVar 2) dNil)))))))))
def c_both : Con := conOf 2 7 g_both
/-- moved ['tally', 'number']: slots 0 tally 1 number -/
def g_moved : MS := (sSeq (sExpr (dCall [false] c_require_tally (dCons (dVar 0) dNil))) (sSeq (sExpr (dCall [false, false, false] c_require_from (dCons (dVar 1) (dCons (dK (.int
  0)) (dCons (dK (.int k_MAX_MEMBERS)) dNil))))) (sRet (dCall [false, false] c_moved_in (dCons (dVar 0) (dCons (dVar 1) dNil))))))
def c_moved : Con := conOf 2 2 g_moved
/-- added ['one', 'other']: slots 0 one 1 other -/
def g_added : MS := (sSeq (sExpr (dCall [false] c_require_tally (dCons (dVar 0) dNil))) (sSeq (sExpr (dCall [false] c_require_tally (dCons (dVar 1) dNil))) (sRet (dCall [false,
  false] c_added_in (dCons (dVar 0) (dCons (dVar 1) dNil))))))
def c_added : Con := conOf 2 2 g_added
/-- _law_right ['dice']: slots 0 dice 1 one 2 other 3 period 4 start 5 size 6 left 7 right 8 flags 9 sums 10 at 11 spot 12 number 13 above 14 first 15 last -/
def q__law_right_0 : M Hd := (dTup (dCons (dTup (dCons (dK (.int 0)) dNil)) (dCons (dK (.int 1)) (dCons (dK (.int 1)) (dCons (dTup dNil) dNil)))))
def p__law_right_1 : MS := (sSeq (sSetD 13 (dOp oAdd (dOp oMul (dFz (dLst (dCons (dK (.bl false)) dNil))) (dVar 12)) (dCall [false, false] c__law_flags (dCons (dVar 1) (dCons (dOp
  oAdd (dOp oIx (dVar 1) (dK (.int 1))) (dOp oIx (dVar 1) (dK (.int 2)))) dNil))))) (sSeq (sIf (dOr (dB (dOp oNe (dCall [false, false] c_moved (dCons (dVar 1) (dCons (dVar 12)
  dNil))) (dCall [false, false, false] c__law_tl_least (dCons (dVar 13) (dCons (dOp oAdd (dOp oIx (dVar 1) (dK (.int 1))) (dVar 12)) (dCons (dOp oIx (dVar 1) (dK (.int 2)))
  dNil)))))) (dB (dOp oNe (dCall [false, false] c_moved (dCons (dVar 1) (dCons (dK (.int 0)) dNil))) (dVar 1)))) (sRet (dK (.bl false))) sNil) (sRet (dAndV (dOp oEq (dCall [false,
  false] c_added (dCons (dVar 1) (dCons (dK k_EMPTY) dNil))) (dK k_EMPTY)) (dAndV (dOp oEq (dCall [false, false] c_added (dCons (dVar 1) (dCons q__law_right_0 dNil))) (dVar 1))
  (dOp oEq (dCall [false, false] c_either (dCons (dVar 1) (dCons (dK k_EMPTY) dNil))) (dVar 1)))))))
def q__law_right_2 : M Hd := (dFz (dLst (dCons (dK (.int 0)) (dCons (dK (.int 1)) (dCons (dK (.int 5)) (dCons (dK (.int 40)) dNil))))))
def l__law_right_3 : M (List D) := (dLc (dRng1 (dVar 5)) (tgN 10) (dTst (dOp oIx (dVar 6) (dVar 10))) (dVar 10) [10])
def l__law_right_4 : M (List D) := (dLc (dRng1 (dOp oSub (dVar 5) (dVar 10))) (tgN 11) (dTst (dOp oIx (dVar 7) (dVar 11))) (dVar 11) [11])
def b__law_right_5 : MS := (sSetIx 9 (dOp oAdd (dVar 10) (dVar 11)) (dK (.bl true)))
def b__law_right_6 : MS := (sFor (dIt (dFz l__law_right_4)) (tgN 11) b__law_right_5)
def p__law_right_7 : MS := (sSeq (sFor (dIt (dFz l__law_right_3)) (tgN 10) b__law_right_6) (sSeq (sIf (dOr (dB (dOp oNe (dCall [false, false] c_added (dCons (dVar 1) (dCons (dVar
  2) dNil))) (dCall [false, false, false] c__law_tl_least (dCons (dVar 9) (dCons (dVar 4) (dCons (dVar 3) dNil)))))) (dB (dOp oNe (dCall [false, false] c_added (dCons (dVar 2)
  (dCons (dVar 1) dNil))) (dCall [false, false] c_added (dCons (dVar 1) (dCons (dVar 2) dNil)))))) (sRet (dK (.bl false))) sNil) (sSeq (sSetD 12 (dCall [true, false] c__law_pick
  (dCons (dVar 0) (dCons q__law_right_2 dNil)))) p__law_right_1)))
def l__law_right_8 : M (List D) := (dLc (dZp (dVar 6) (dVar 7)) (tgT 2 (tgCons (tgN 14) (tgCons (tgN 15) tgNil))) dYes (dAndV (dVar 14) (dVar 15)) [14, 15])
def l__law_right_9 : M (List D) := (dLc (dZp (dVar 6) (dVar 7)) (tgT 2 (tgCons (tgN 14) (tgCons (tgN 15) tgNil))) dYes (dOrV (dVar 14) (dVar 15)) [14, 15])
def p__law_right_10 : MS := (sSeq (sAsgT (tgT 2 (tgCons (tgN 6) (tgCons (tgN 7) tgNil))) (dTup (dCons (dCall [false, false] c__law_flags (dCons (dVar 1) (dCons (dVar 5) dNil)))
  (dCons (dCall [false, false] c__law_flags (dCons (dVar 2) (dCons (dVar 5) dNil))) dNil)))) (sSeq (sSetD 8 (dFz (dLst (dCons (dFz l__law_right_9) (dCons (dFz l__law_right_8)
  dNil))))) (sSeq (sIf (dB (dOp oNe (dCall [false, false] c_either (dCons (dVar 1) (dCons (dVar 2) dNil))) (dCall [false, false, false] c__law_tl_least (dCons (dOp oIx (dVar 8) (dK
  (.int 0))) (dCons (dVar 4) (dCons (dVar 3) dNil)))))) (sRet (dK (.bl false))) sNil) (sSeq (sIf (dB (dOp oNe (dCall [false, false] c_both (dCons (dVar 1) (dCons (dVar 2) dNil)))
  (dCall [false, false, false] c__law_tl_least (dCons (dOp oIx (dVar 8) (dK (.int 1))) (dCons (dVar 4) (dCons (dVar 3) dNil)))))) (sRet (dK (.bl false))) sNil) (sSeq (sSetO 9 (dOpO
  oRep (dFz (dLst (dCons (dK (.bl false)) dNil))) (dVar 5))) p__law_right_7)))))
def g__law_right : MS := (sSeq (sPar2 1 2 (xD (dCall [true, false] c__law_set (dCons (dVar 0) (dCons (dK (.int 7)) dNil))) (xD (dCall [true, false] c__law_set (dCons (dVar 0)
  (dCons (dK (.int 6)) dNil))) xNil))) (sSeq (sSetD 3 (dCall [false, false] c__law_multiple (dCons (dOp oIx (dVar 1) (dK (.int 2))) (dCons (dOp oIx (dVar 2) (dK (.int 2))) dNil))))
  (sSeq (sSetD 4 (dOp oAdd (dOp oAdd (dOp oIx (dVar 1) (dK (.int 1))) (dOp oIx (dVar 2) (dK (.int 1)))) (dVar 3))) (sSeq (sSetD 5 (dOp oAdd (dVar 4) (dVar 3))) p__law_right_10))))
def c__law_right : Con := conOf 1 16 g__law_right
/-- _law_bounds_right []: slots 0 told 1 late 2 long 3 seven -/
def q__law_bounds_right_0 : M Hd := (dFz (dLst (dCons (dK (.str "fine")) (dCons (dK (.int 4000)) (dCons (dK (.int 4000)) (dCons (dK (.str "fine")) (dCons (dK (.int 4000)) (dCons
  (dK (.str "fine")) (dCons (dK (.int 4000)) (dCons (dK (.int 4000)) (dCons (dK (.str "fine")) dNil)))))))))))
def p__law_bounds_right_1 : MS := (sRet (dOp oEq (dVar 0) q__law_bounds_right_0))
def p__law_bounds_right_2 : MS := (sSeq (sExpr (dAppend 0 (dMet hnd__law_met "fine" (dCall [false, false] c_either (dCons (dVar 3) (dCons (dCall [false, false, false, false]
  c_tally_of (dCons (dTup dNil) (dCons (dK (.int 0)) (dCons (dK (.int 65)) (dCons (dTup (dCons (dK (.int 1)) dNil)) dNil))))) dNil)))))) (sSeq (sExpr (dAppend 0 (dMet hnd__law_met
  "fine" (dCall [false, false] c_either (dCons (dVar 3) (dCons (dVar 2) dNil)))))) (sSeq (sExpr (dAppend 0 (dMet hnd__law_met "fine" (dCall [false, false] c_both (dCons (dVar 2)
  (dCons (dVar 3) dNil)))))) (sSeq (sExpr (dAppend 0 (dMet hnd__law_met "fine" (dCall [false, false] c_moved (dCons (dVar 1) (dCons (dK (.int 99)) dNil)))))) (sSeq (sExpr (dAppend
  0 (dMet hnd__law_met "fine" (dCall [false, false] c_moved (dCons (dVar 1) (dCons (dK (.int 100)) dNil)))))) (sSeq (sExpr (dAppend 0 (dMet hnd__law_met "fine" (dCall [false,
  false] c_added (dCons (dCall [false, false, false, false] c_tally_of (dCons (dTup dNil) (dCons (dK (.int 0)) (dCons (dK (.int 16)) (dCons (dTup (dCons (dK (.int 0)) dNil))
  dNil))))) (dCons (dCall [false, false, false, false] c_tally_of (dCons (dTup dNil) (dCons (dK (.int 0)) (dCons (dK (.int 125)) (dCons (dTup (dCons (dK (.int 0)) dNil)) dNil)))))
  dNil)))))) (sSeq (sExpr (dAppend 0 (dMet hnd__law_met "fine" (dCall [false, false] c_added (dCons (dCall [false, false, false, false] c_tally_of (dCons (dTup dNil) (dCons (dK
  (.int 0)) (dCons (dK (.int 23)) (dCons (dTup (dCons (dK (.int 0)) dNil)) dNil))))) (dCons (dCall [false, false, false, false] c_tally_of (dCons (dTup dNil) (dCons (dK (.int 0))
  (dCons (dK (.int 87)) (dCons (dTup (dCons (dK (.int 0)) dNil)) dNil))))) dNil)))))) (sSeq (sExpr (dAppend 0 (dMet hnd__law_met "fine" (dCall [false, false] c_added (dCons (dVar
  1) (dCons (dCall [false, false, false, false] c_tally_of (dCons (dTup dNil) (dCons (dK (.int 99)) (dCons (dK (.int 1)) (dCons (dTup (dCons (dK (.int 99)) dNil)) dNil)))))
  dNil)))))) (sSeq (sExpr (dAppend 0 (dMet hnd__law_met "fine" (dCall [false, false] c_added (dCons (dVar 1) (dCons (dCall [false, false, false, false] c_tally_of (dCons (dTup
  dNil) (dCons (dK (.int 98)) (dCons (dK (.int 1)) (dCons (dTup (dCons (dK (.int 98)) dNil)) dNil))))) dNil)))))) p__law_bounds_right_1)))))))))
def g__law_bounds_right : MS := (sSeq (sAsgT (tgT 2 (tgCons (tgN 3) (tgCons (tgN 2) tgNil))) (dTup (dCons (dCall [false, false, false, false] c_tally_of (dCons (dTup dNil) (dCons
  (dK (.int 0)) (dCons (dK (.int 61)) (dCons (dTup (dCons (dK (.int 0)) dNil)) dNil))))) (dCons (dCall [false, false, false, false] c_tally_of (dCons (dTup dNil) (dCons (dK (.int
  0)) (dCons (dK (.int 67)) (dCons (dTup (dCons (dK (.int 3)) dNil)) dNil))))) dNil)))) (sSeq (sPar2 1 0 (xD (dCall [false, false, false, false] c_tally_of (dCons (dTup dNil)
  (dCons (dK (.int 3900)) (dCons (dK (.int 1)) (dCons (dTup (dCons (dK (.int 3900)) dNil)) dNil))))) (xO (dLst dNil) xNil))) p__law_bounds_right_2))
def c__law_bounds_right : Con := conOf 0 4 g__law_bounds_right
/-- law ['script']: slots 0 script 1 spot 2 dice 3 turn -/
def b_law_0 : MS := (sIf (dNot (dTst (dCall [true] c__law_right (dCons (dVar 2) dNil)))) (sRet (dK (.bl false))) sNil)
def b_law_1 : MS := (sSeq (sSetO 2 (dCallOwn [false, false] c__law_dice (dCons (dVar 0) (dCons (dVar 1) dNil)))) (sFor (dRng1 (dK (.int 4))) (tgN 3) b_law_0))
def g_law : MS := (sSeq (sFor (dRng1 (dCallB oMax (dCons (dK (.int 1)) (dCons (dCallB oMin (dCons (dK (.int 8)) (dCons (dCallB oLen (dCons (dVar 0) dNil)) dNil))) dNil)))) (tgN 1)
  b_law_1) (sRet (dCall [] c__law_bounds_right dNil)))
def c_law : Con := conOf 1 4 g_law
end K14
end
section
set_option Elab.async false
set_option linter.all false
set_option maxRecDepth 100000
set_option maxHeartbeats 1000000
namespace K14
open PySem PySem.Spec L2 DL SetN
open PyProof.Rows hiding St
theorem has_in_v {b a : List Int} {s p n : Int} (hp : 0 < p) : c_has_in [.d (tD b s p a), .d (.int n)] = some (.ok (.d (.bl (hasV b s p a n))), []) := by
  unfold c_has_in g_has_in hasV
  by_cases h : n < s
  · simp [h, oIn_ints]
  · simp [h, oIn_ints, oMod_pos hp]
theorem tl_has_v {b a : List Int} {s p n : Int} (hp : 0 < p) : c__law_tl_has [.d (tD b s p a), .d (.int n)] = some (.ok (.d (.bl (hasV b s p a n))), []) := by
  unfold c__law_tl_has g__law_tl_has hasV
  by_cases h : n < s
  · simp [h, oIn_ints]
  · simp [h, oIn_ints, oMod_pos hp]
theorem is_int_aux (L i : Int) : conOf 1 1 (sRet (dAndV (dIsi "int" (dVar 0)) (dAndV (dNotV (dIsi "bool" (dVar 0))) (dChain oLt oLt (dUn oNeg (dK (.int L))) (dVar 0) (dK (.int L)))))) [.d (.int i)] = some (.ok (.d (.bl (decide (-L < i) && decide (i < L)))), []) := by
  by_cases h : -L < i <;> simp [h]
theorem is_int_no (L : Int) {d : D} {t : String} (h : tyD d = some t) (h2 : t ≠ "int") : conOf 1 1 (sRet (dAndV (dIsi "int" (dVar 0)) (dAndV (dNotV (dIsi "bool" (dVar 0))) (dChain oLt oLt (dUn oNeg (dK (.int L))) (dVar 0) (dK (.int L)))))) [.d d] = some (.ok (.d (.bl false)), []) := by
  cases d with
  | int i => cases h; exact absurd rfl h2
  | glo x => cases h
  | scr x => cases h
  | _ => simp
theorem c_is_integer_eq : c_is_integer = conOf 1 1 (sRet (dAndV (dIsi "int" (dVar 0)) (dAndV (dNotV (dIsi "bool" (dVar 0))) (dChain oLt oLt (dUn oNeg (dK (.int k_LONGEST))) (dVar 0) (dK (.int k_LONGEST)))))) := rfl
theorem is_integer_v (i : Int) : c_is_integer [.d (.int i)] = some (.ok (.d (.bl (decide (-k_LONGEST < i) && decide (i < k_LONGEST)))), []) := by
  rw [c_is_integer_eq]
  exact is_int_aux k_LONGEST i
theorem is_integer_no {d : D} {t : String} (h : tyD d = some t) (h2 : t ≠ "int") : c_is_integer [.d d] = some (.ok (.d (.bl false)), []) := by
  rw [c_is_integer_eq]
  exact is_int_no k_LONGEST h h2
def isw (l m i : Int) : Bool := decide (-k_LONGEST < i) && decide (i < k_LONGEST) && decide (l ≤ i) && decide (i ≤ m)
theorem is_within_v (i l m : Int) : c_is_within [.d (.int i), .d (.int l), .d (.int m)] = some (.ok (.d (.bl (isw l m i))), []) := by
  unfold c_is_within g_is_within isw
  have h := is_integer_v i
  generalize (decide (-k_LONGEST < i) && decide (i < k_LONGEST)) = x at h ⊢
  cases x
  · simp [h]
  · by_cases h2 : l ≤ i <;> simp [h, h2]
theorem is_within_no {d : D} {t : String} (h : tyD d = some t) (h2 : t ≠ "int") (l m : Int) : c_is_within [.d d, .d (.int l), .d (.int m)] = some (.ok (.d (.bl false)), []) := by
  unfold c_is_within g_is_within
  simp [is_integer_no h h2]
theorem isw_small {l m i : Int} (h : -100000 ≤ i ∧ i ≤ 100000) : isw l m i = (decide (l ≤ i) && decide (i ≤ m)) := by
  unfold isw
  have h1 : -k_LONGEST < i := by
    have : (-k_LONGEST : Int) < -100000 := by decide
    omega
  have h2 : i < k_LONGEST := by
    have : (100000 : Int) < k_LONGEST := by decide
    omega
  rw [decide_eq_true h1, decide_eq_true h2] <;> rfl
theorem flags_in_v {b a : List Int} {s p N : Nat} (hp : 1 ≤ p) (hN : N ≤ 10000) : c_flags_in [.d (tD b s p a), .d (.int N)] = some (.ok (.d (.lst (flL (fV b s p a) N))), []) := by
  have h1 : l_flags_in_0 [.d (tD b s p a), .d (.int N), .no] = some (.ok (flL (fV b s p a) N), [.d (tD b s p a), .d (.int N), .no]) := by
    have hp' : (0 : Int) < p := by omega
    have q : l_flags_in_0 _ = _ := dLcE (ρ := [.d (tD b s p a), .d (.int N), .no]) (ρ1 := [.d (tD b s p a), .d (.int N), .no]) (xs := rngD 0 N) (fun d => match d with | .int n => .bl (hasV b s p a n) | _ => .non) (by simp [rng1_v (N := N) (by omega)]) (by simp) (by rw [rngD_len]; omega) (by simp) (fun x hx => by
        obtain ⟨k, hk, rfl⟩ := mem_rngD hx
        exact ⟨_, rfl, by simp [has_in_v hp'], by simp⟩)
    simpa [rngD, flL, fV, Function.comp_def] using q
  unfold c_flags_in g_flags_in
  simp [h1]
theorem tl_flags {b a : List Int} {s p : Nat} (hp : 1 ≤ p) (hN : s + p ≤ 10000) : l__law_tl_of_0 [.d (.tup (b.map D.int)), .d (.int s), .d (.int p), .d (.tup (a.map D.int)), .no, .no] = some (.ok (flL (fV b s p a) (s + p)), [.d (.tup (b.map D.int)), .d (.int s), .d (.int p), .d (.tup (a.map D.int)), .no, .no]) := by
  have hp' : (0 : Int) < p := by omega
  have hz : oRng1 (.int ((s : Int) + p)) = some (rngD 0 (s + p)) := rng1_v (N := s + p) (by omega)
  have q : l__law_tl_of_0 _ = _ := dLcE (ρ := [.d (.tup (b.map D.int)), .d (.int s), .d (.int p), .d (.tup (a.map D.int)), .no, .no]) (ρ1 := [.d (.tup (b.map D.int)), .d (.int s), .d (.int p), .d (.tup (a.map D.int)), .no, .no]) (xs := rngD 0 (s + p)) (fun d => match d with | .int n => .bl (hasV b s p a n) | _ => .non) (by simp [hz]) (by simp) (by rw [rngD_len]; omega) (by simp) (fun x hx => by
      obtain ⟨k, hk, rfl⟩ := mem_rngD hx
      exact ⟨_, rfl, by simp [tl_has_v hp'], by simp⟩)
  simpa [rngD, flL, fV, Function.comp_def] using q
end K14
end
section
set_option Elab.async false
set_option linter.all false
set_option maxRecDepth 100000
set_option maxHeartbeats 1000000
namespace K14
open PySem PySem.Spec L2 DL SetN
open PyProof.Rows hiding St
theorem divisors_of_v {N : Nat} (h1 : 1 ≤ N) (h2 : N ≤ 4000) : c_divisors_of [.d (.int N)] = some (.ok (.d (.lst ((divs N).map fun d => .int (d : Nat)))), []) := by
  have hr : oRng2 (.int 1) (.int ((N : Int) + 1)) = some (rngD 1 N) := by
    have e : (N : Int) + 1 = ((1 : Nat) : Int) + N := by omega
    rw [e]
    exact rng2_v (s := 1) (n := N) (by omega)
  have q : l_divisors_of_0 _ = _ := dLcG (ρ := [.d (.int N), .no]) (ρ1 := [.d (.int N), .no]) (xs := rngD 1 N) (fun d => match d with | .int n => decide ((N : Int) % n = 0) | _ => false) (fun d => d) (by simp [hr]) (by simp) (by rw [rngD_len]; omega) (by simp) (fun x hx => by
      obtain ⟨k, hk, rfl⟩ := mem_rngD hx
      exact ⟨_, rfl, by simp [oMod_pos (show (0 : Int) < 1 + (k : Nat) by omega), qe_int], fun _ => by simp, by simp⟩)
  rw [rng_fm] at q
  have e : ((List.range N).filter fun k => decide ((N : Int) % (1 + (k : Nat)) = 0)).map (fun k => D.int (1 + (k : Nat))) = (divs N).map fun d => .int (d : Nat) := by
    unfold divs
    rw [List.map_map]
    have e2 : ((List.range N).filter fun k => decide ((N : Int) % (1 + (k : Nat)) = 0)) = (List.range N).filter fun k => decide (N % (1 + k) = 0) := by
      refine List.filter_congr fun k _ => ?_
      rw [Bool.eq_iff_iff, decide_eq_true_iff, decide_eq_true_iff]
      have e3 : (N : Int) % (1 + (k : Nat)) = ((N % (1 + k) : Nat) : Int) := by rw [Int.natCast_emod, Int.natCast_add] <;> rfl
      omega
    rw [e2]
    refine List.map_congr_left fun k _ => ?_
    simp
  have q2 : l_divisors_of_0 [.d (.int N), .no] = some (.ok ((divs N).map fun d => .int (d : Nat)), [.d (.int N), .no]) := by rw [q]; exact congrArg (fun z => some (Except.ok z, _)) e
  unfold c_divisors_of g_divisors_of
  simp [q2]
def perB (g : Nat → Bool) (N d : Nat) : Bool := decide ((List.range N).map g = (List.replicate (N / d) ((List.range d).map g)).flatten)
theorem lp_body {g : Nat → Bool} {N d : Nat} (h1 : 1 ≤ d) (h2 : d ≤ N) (h3 : N ≤ 4000) (A : D) (hA : A = .lst (flL g N)) : b_least_period_0 [.d A, .d (.int N), .d (.int d)] = if perB g N d then some (.rt (.int d), [.d A, .d (.int N), .d (.int d)]) else some (.nx, [.d A, .d (.int N), .d (.int d)]) := by
  have e1 : cutG (flL g N) none (some (d : Int)) = flL g d := by rw [cut_to, flL_take g h2]
  have hq : N / d ≤ N := Nat.div_le_self _ _
  have e2 : oMul (.lst (flL g d)) (.int ((N / d : Nat) : Int)) = some (.lst (List.replicate (N / d) (flL g d)).flatten) := oMul_rep (by omega) (by
    rw [flL_len]
    have := Nat.mul_le_mul h2 hq
    have := Nat.mul_le_mul h3 h3
    omega)
  have e3 : (List.replicate (N / d) (flL g d)).flatten = ((List.replicate (N / d) ((List.range d).map g)).flatten).map D.bl := by
    unfold flL
    rw [List.map_flatten, List.map_replicate]
  rw [Int.natCast_ediv] at e2
  have e4 : oEq (.lst (flL g N)) (.lst (List.replicate (N / d) (flL g d)).flatten) = some (.bl (perB g N d)) := by
    rw [e3]
    exact qe_lstB _ _
  subst hA
  unfold b_least_period_0
  cases h : perB g N d <;> simp [e1, e2, e4, h, oDiv_v h1 (show d ≤ 8000 by omega), -List.map_flatten, -List.flatten_replicate_replicate]
theorem lp_fo {g : Nat → Bool} {N : Nat} (h3 : N ≤ 4000) (A : D) (hA : A = .lst (flL g N)) : ∀ (ds : List Nat), (∀ d ∈ ds, 1 ≤ d ∧ d ≤ N) → ∀ x, ∃ y, fo (tgN 2) b_least_period_0 (ds.map fun d => .int (d : Nat)) [.d A, .d (.int N), x] = match ds.find? (perB g N) with
    | some d => some (.rt (.int d), [.d A, .d (.int N), y])
    | none => some (.nx, [.d A, .d (.int N), y])
  | [], _, x => ⟨x, rfl⟩
  | d :: ds, h, x => by
    obtain ⟨h1, h2⟩ := h d List.mem_cons_self
    rw [List.map_cons]
    unfold fo
    have b := lp_body h1 h2 h3 A hA
    cases c : perB g N d with
    | true => exact ⟨.d (.int d), by simp [b, c]⟩
    | false =>
      obtain ⟨y, e⟩ := lp_fo h3 A hA ds (fun d hd => h d (List.mem_cons_of_mem _ hd)) (.d (.int d))
      exact ⟨y, by simp [b, c, e]⟩
theorem least_period_v {g : Nat → Bool} {N : Nat} (h1 : 1 ≤ N) (h2 : N ≤ 4000) : ∃ q, 1 ≤ q ∧ q ≤ N ∧ q ∣ N ∧ (∀ i, i < N → g i = g (i % q)) ∧ (∀ c, 1 ≤ c → c < q → c ∣ N → ¬ ∀ i, i < N → g i = g (i % c)) ∧ c_least_period [.d (.lst (flL g N))] = some (.ok (.d (.int q)), []) := by
  have pN : perB g N N = true := by
    unfold perB
    rw [Nat.div_self h1]
    simp
  have piff : ∀ c, 1 ≤ c → c ∣ N → (perB g N c = true ↔ ∀ i, i < N → g i = g (i % c)) := fun c c1 c2 => by
    unfold perB
    rw [decide_eq_true_iff]
    exact rep_iff c1 (Nat.div_mul_cancel c2).symm
  obtain ⟨q, f1, f2, f3, f4, f5, f6⟩ := find_divs h1 pN
  refine ⟨q, f2, f3, f4, (piff q f2 f4).mp f5, fun c c1 c2 c3 hc => ?_, ?_⟩
  · have := (piff c c1 c3).mpr hc
    rw [f6 c c1 c2 c3] at this
    cases this
  · obtain ⟨y, e⟩ := lp_fo (g := g) h2 _ rfl (divs N) (fun d hd => let ⟨a, b, _⟩ := mem_divs.mp hd; ⟨a, b⟩) .no
    rw [f1] at e
    have dv := divisors_of_v h1 h2
    unfold c_least_period g_least_period
    simp [flL_len, dv, e]
end K14
end
section
set_option Elab.async false
set_option linter.all false
set_option maxRecDepth 100000
set_option maxHeartbeats 1000000
namespace K14
open PySem PySem.Spec L2 DL SetN
open PyProof.Rows hiding St
theorem tally_v {f : Nat → Bool} {s p : Nat} (h : EP f s p) (hb : s + p ≤ 4000) : ∃ t q, Can f t q ∧ t ≤ s ∧ q ≤ p ∧ c_tally_of_flags [.d (.lst (flL f (s + p))), .d (.int s)] = some (.ok (.d (tal f t q)), []) := by
  have hp := h.1
  have e1 : cutG (flL f (s + p)) (some (s : Int)) none = flL (fun i => f (s + i)) p := by rw [cut_from _ _ (by rw [flL_len]; omega), flL_drop]
  have e2 : cutG (flL f (s + p)) none (some (s : Int)) = flL f s := by rw [cut_to, flL_take f (by omega)]
  have e3 := any_fl (fun i => f (s + i)) p
  generalize hA : D.lst (flL f (s + p)) = A
  cases hany : (List.range p).any (fun i => f (s + i)) with
  | false =>
    have hall : ∀ n, s ≤ n → f n = false := fun n hn => by
      rw [← h.mod hn]
      have := List.any_eq_false.mp hany ((n - s) % p) (List.mem_range.mpr (Nat.mod_lt _ hp))
      simpa using this
    obtain ⟨t, ht, hc, hz, hl⟩ := can_fin hall
    refine ⟨t, 1, hc, ht, hp, ?_⟩
    rw [hany] at e3
    have l4 : l_tally_of_flags_4 [.d A, .d (.int s), .d (.lst (flL (fun i => f (s + i)) p)), .no, .no, .no, .no, .no] = some (.ok ((rowI f 0 s).map D.int), [.d A, .d (.int s), .d (.lst (flL (fun i => f (s + i)) p)), .no, .no, .no, .no, .no]) := by
      rw [← en_of]
      exact dLcG _ _ (by subst hA; simp [e2]) (by simp) (by rw [en_len, flL_len]; omega) (by simp) fun x hx => by
        obtain ⟨k, hk, rfl⟩ := mem_en hx
        exact ⟨_, rfl, by simp, fun _ => by simp, by simp⟩
    rw [row_cut ht hz] at l4
    have fin : ∀ (l : List Int) (m : Int), (l = rowI f 0 t) → (if l = [] then m = 0 else atI (l.map D.int) (-1) = some (.int (m - 1))) → c_tally_of_flags [.d A, .d (.int s)] = some (.ok (.d (.tup [.tup (l.map D.int), .int m, .int 1, .tup []])), []) := fun l m hlm hm => by
      rw [← hlm] at l4
      unfold c_tally_of_flags g_tally_of_flags
      subst hA
      by_cases c : l = []
      · rw [if_pos c] at hm
        simp [e1, e3, l4, qn_nil, c, hm]
      · rw [if_neg c] at hm
        have e9 : m - 1 + 1 = m := by omega
        simp [e1, e3, l4, qn_lst0, c, hm, e9]
    have e7 : (tal f t 1) = .tup [.tup ((rowI f 0 t).map D.int), .int t, .int 1, .tup []] := by
      show tD _ _ _ (rowI f t 1) = _
      rw [row_nil (hz t (Nat.le_refl _))] <;> rfl
    rw [e7]
    refine fin _ t rfl ?_
    rcases hl with rfl | hl
    · rw [if_pos (by simp [rowI])] <;> rfl
    · obtain ⟨u, rfl⟩ : ∃ u, t = u + 1 := by
        cases t with
        | zero => rw [hz 0 (Nat.le_refl _)] at hl; cases hl
        | succ u => exact ⟨u, rfl⟩
      have e8 : u + 1 - 1 = u := by omega
      rw [e8] at hl
      rw [row_last hl, if_neg (by simp), List.map_append, List.map_cons, List.map_nil, at_last]
      congr 2
      omega
  | true =>
    rw [hany] at e3
    obtain ⟨q, q1, q2, q3, q4, q5, q6⟩ := least_period_v (g := fun i => f (s + i)) hp (by omega : p ≤ 4000)
    have hq : EP f s q := (per_mod h q1 q3).mp q4
    have hl := least_of h hq fun c c1 c2 c3 hc => q5 c c1 c2 c3 ((per_mod h c1 c3).mpr hc)
    refine ⟨back f q s, q, can_back hq hl, back_le, q2, ?_⟩
    have tl : back f q s ≤ s := back_le
    have w := wh_back (f := f) (q := q) (s0 := s) (t := t_tally_of_flags_2) (b := b_tally_of_flags_3) (fun n => [.d A, .d (.int (n : Nat)), .d (.lst (flL (fun i => f (s + i)) p)), .no, .d (.int q), .no, .no, .no])
      (by unfold t_tally_of_flags_2; simp)
      (fun n hn => by
        have a1 := flL_at (f := f) (n := s + p) (i := n) (by omega)
        have a2 := flL_at (f := f) (n := s + p) (i := n + q) (by omega)
        rw [Int.natCast_add] at a2
        have a3 : ((n : Int) + 1 - 1) = n := by omega
        have a4 : (0 : Int) < (n : Int) + 1 := by omega
        subst hA
        unfold t_tally_of_flags_2
        simp [a1, a2, a3, a4, qe_bl])
      (fun n hn => by
        unfold b_tally_of_flags_3
        simp) s 100000 (Nat.le_refl _) (by omega)
    generalize back f q s = t at w tl ⊢
    have l1 : l_tally_of_flags_1 [.d A, .d (.int (t : Nat)), .d (.lst (flL (fun i => f (s + i)) p)), .no, .d (.int q), .no, .no, .no] = some (.ok ((rowI f 0 t).map D.int), [.d A, .d (.int (t : Nat)), .d (.lst (flL (fun i => f (s + i)) p)), .no, .d (.int q), .no, .no, .no]) := by
      rw [← row_of (f := f) (lo := 0) (n := t) (fun d => match d with | .int i => (match atI (flL f (s + p)) i with | some (.bl b) => b | _ => false) | _ => false) fun k hk => by
        have := flL_at (f := f) (n := s + p) (i := k) (by omega)
        simp [this]]
      exact dLcG _ _ (by simp [rng1_v (N := t) (by omega)]) (by simp) (by rw [rngD_len]; omega) (by simp) fun x hx => by
        obtain ⟨k, hk, rfl⟩ := mem_rngD hx
        have := flL_at (f := f) (n := s + p) (i := k) (by omega)
        subst hA
        exact ⟨_, rfl, by simp [this], fun _ => by simp, by simp⟩
    have l0 : l_tally_of_flags_0 [.d A, .d (.int (t : Nat)), .d (.lst (flL (fun i => f (s + i)) p)), .no, .d (.int q), .d (.tup ((rowI f 0 t).map D.int)), .no, .no] = some (.ok ((rowI f t q).map D.int), [.d A, .d (.int (t : Nat)), .d (.lst (flL (fun i => f (s + i)) p)), .no, .d (.int q), .d (.tup ((rowI f 0 t).map D.int)), .no, .no]) := by
      rw [← row_of (f := f) (lo := t) (n := q) (fun d => match d with | .int i => (match atI (flL f (s + p)) i with | some (.bl b) => b | _ => false) | _ => false) fun k hk => by
        have := flL_at (f := f) (n := s + p) (i := t + k) (by omega)
        rw [Int.natCast_add] at this
        simp [this]]
      exact dLcG _ _ (by simp [rng2_v (s := t) (n := q) (by omega)]) (by simp) (by rw [rngD_len]; omega) (by simp) fun x hx => by
        obtain ⟨k, hk, rfl⟩ := mem_rngD hx
        have := flL_at (f := f) (n := s + p) (i := t + k) (by omega)
        rw [Int.natCast_add] at this
        subst hA
        exact ⟨_, rfl, by simp [this], fun _ => by simp, by simp⟩
    unfold c_tally_of_flags g_tally_of_flags
    subst hA
    simp [e1, e3, q6, w, l1, l0]
end K14
end
section
set_option Elab.async false
set_option linter.all false
set_option maxRecDepth 100000
set_option maxHeartbeats 1000000
namespace K14
open PySem PySem.Spec L2 DL SetN
open PyProof.Rows hiding St
theorem tll_body {f : Nat → Bool} {s p d l : Nat} {x5 : Sl} (A : D) (hA : A = .lst (flL f (s + p))) (hb : s + p ≤ 4000) (h1 : 1 ≤ d) (h2 : d ≤ p) :
    b__law_tl_least_5 [.d A, .d (.int s), .d (.int p), .d (.int l), .d (.int d), x5, .no, .no, .no, .no] =
      some (.nx, [.d A, .d (.int s), .d (.int p), .d (.int ((if decide (p % d = 0) && decide (rowI (fun i => f i != f (i + d)) s (p - d) = []) then d else l : Nat))), .d (.int d), .d (.lst ((rowI (fun i => f i != f (i + d)) s (p - d)).map D.int)), .no, .no, .no, .no]) := by
  have l4 : l__law_tl_least_4 [.d A, .d (.int s), .d (.int p), .d (.int l), .d (.int d), x5, .no, .no, .no, .no] = some (.ok ((rowI (fun i => f i != f (i + d)) s (p - d)).map D.int), [.d A, .d (.int s), .d (.int p), .d (.int l), .d (.int d), x5, .no, .no, .no, .no]) := by
    have hr : oRng2 (.int s) (.int ((s : Int) + p - d)) = some (rngD s (p - d)) := by
      have e : (s : Int) + p - d = s + ((p - d : Nat) : Int) := by omega
      rw [e]
      exact rng2_v (s := s) (n := p - d) (by omega)
    rw [← row_of (f := fun i => f i != f (i + d)) (lo := s) (n := p - d) (fun e => match e with | .int i => (match atI (flL f (s + p)) i, atI (flL f (s + p)) (i + d) with | some (.bl b), some (.bl c) => b != c | _, _ => false) | _ => false) fun k hk => by
      have a1 := flL_at (f := f) (n := s + p) (i := s + k) (by omega)
      have a2 := flL_at (f := f) (n := s + p) (i := s + k + d) (by omega)
      rw [Int.natCast_add] at a1
      rw [Int.natCast_add, Int.natCast_add] at a2
      simp [a1, a2]]
    exact dLcG _ _ (by simp [hr]) (by simp) (by rw [rngD_len]; omega) (by simp) fun x hx => by
      obtain ⟨k, hk, rfl⟩ := mem_rngD hx
      have a1 := flL_at (f := f) (n := s + p) (i := s + k) (by omega)
      have a2 := flL_at (f := f) (n := s + p) (i := s + k + d) (by omega)
      rw [Int.natCast_add] at a1
      rw [Int.natCast_add, Int.natCast_add] at a2
      subst hA
      exact ⟨_, rfl, by (simp [a1, a2, qn_bl, bne]; cases f (s + k) <;> cases f (s + k + d) <;> rfl), fun _ => by simp, by simp⟩
  have hm : oMod (.int p) (.int d) = some (.int ((p % d : Nat) : Int)) := by rw [oMod_pos (by omega), Int.natCast_emod]
  have h0 : oEq (.int ((p % d : Nat) : Int)) (.int 0) = some (.bl (decide (p % d = 0))) := by
    rw [qe_int]
    congr 2
    rw [decide_eq_decide]
    omega
  generalize rowI (fun i => f i != f (i + d)) s (p - d) = row at l4
  generalize hz : ((p % d : Nat) : Int) = z at hm h0
  unfold b__law_tl_least_5
  by_cases c : p % d = 0
  · rw [decide_eq_true c] at h0
    by_cases c2 : row = []
    · subst c2
      simp at l4
      simp [l4, hm, h0, c, qe_nil]
    · simp [l4, hm, h0, c, c2, qe_lst0]
  · rw [decide_eq_false c] at h0
    simp [l4, hm, h0, c]
theorem tll_fo {f : Nat → Bool} {s p : Nat} (A : D) (hA : A = .lst (flL f (s + p))) (hb : s + p ≤ 4000) : ∀ (ds : List Nat), (∀ d ∈ ds, 1 ≤ d ∧ d ≤ p) → ∀ (l : Nat) (x4 x5 : Sl), ∃ y4 y5, fo (tgN 4) b__law_tl_least_5 (ds.map fun d => .int (d : Nat)) [.d A, .d (.int s), .d (.int p), .d (.int l), x4, x5, .no, .no, .no, .no] =
    some (.nx, [.d A, .d (.int s), .d (.int p), .d (.int ((ds.foldl (fun l d => if decide (p % d = 0) && decide (rowI (fun i => f i != f (i + d)) s (p - d) = []) then d else l) l : Nat))), y4, y5, .no, .no, .no, .no])
  | [], _, l, x4, x5 => ⟨x4, x5, rfl⟩
  | d :: ds, h, l, x4, x5 => by
    obtain ⟨h1, h2⟩ := h d List.mem_cons_self
    rw [List.map_cons]
    unfold fo
    have b := tll_body (f := f) (l := l) (x5 := x5) A hA hb h1 h2
    obtain ⟨y4, y5, e⟩ := tll_fo A hA hb ds (fun d hd => h d (List.mem_cons_of_mem _ hd)) (if decide (p % d = 0) && decide (rowI (fun i => f i != f (i + d)) s (p - d) = []) then d else l) (.d (.int d)) (.d (.lst ((rowI (fun i => f i != f (i + d)) s (p - d)).map D.int)))
    refine ⟨y4, y5, ?_⟩
    rw [List.foldl_cons, ← e]
    simp only [tgN, List.set_cons_succ, List.set_cons_zero, b]
theorem good_iff {f : Nat → Bool} {s p d : Nat} (h : EP f s p) (h1 : 1 ≤ d) (h2 : d ≤ p) : (decide (p % d = 0) && decide (rowI (fun i => f i != f (i + d)) s (p - d) = [])) = true ↔ d ∣ p ∧ EP f s d := by
  rw [Bool.and_eq_true, decide_eq_true_iff, decide_eq_true_iff]
  constructor
  · rintro ⟨a, b⟩
    have dv := Nat.dvd_of_mod_eq_zero a
    refine ⟨dv, (per_iff h h1 dv).mp fun x hx hy => ?_⟩
    by_cases c : f x = f (x + d)
    · exact c
    · have : ((x : Nat) : Int) ∈ rowI (fun i => f i != f (i + d)) s (p - d) := mem_rowI.mpr ⟨x, hx, by omega, by simp [c], rfl⟩
      rw [b] at this
      cases this
  · rintro ⟨a, b⟩
    refine ⟨Nat.mod_eq_zero_of_dvd a, List.eq_nil_iff_forall_not_mem.mpr fun x hx => ?_⟩
    obtain ⟨i, i1, _, i3, _⟩ := mem_rowI.mp hx
    rw [b.2 i i1] at i3
    simp at i3
theorem tl_least_v {f : Nat → Bool} {s p : Nat} (h : EP f s p) (hb : s + p ≤ 4000) : ∃ t q, Can f t q ∧ c__law_tl_least [.d (.lst (flL f (s + p))), .d (.int s), .d (.int p)] = some (.ok (.d (tal f t q)), []) := by
  have hp := h.1
  generalize hA : D.lst (flL f (s + p)) = A
  obtain ⟨y4, y5, e⟩ := tll_fo (f := f) (s := s) (p := p) A hA.symm hb (dsc p) (fun d hd => mem_dsc.mp hd) 0 .no .no
  rw [← rngC_dsc, show ((0 : Nat) : Int) = 0 from rfl] at e
  have hf := fold_g (fun d => decide (p % d = 0) && decide (rowI (fun i => f i != f (i + d)) s (p - d) = [])) (dsc p) 0 (dsc_pw p)
  generalize (dsc p).foldl (fun l d => if decide (p % d = 0) && decide (rowI (fun i => f i != f (i + d)) s (p - d) = []) then d else l) 0 = q at hf e
  have hg : q ∈ dsc p ∧ (decide (p % q = 0) && decide (rowI (fun i => f i != f (i + q)) s (p - q) = [])) = true ∧ ∀ c ∈ dsc p, (decide (p % c = 0) && decide (rowI (fun i => f i != f (i + c)) s (p - c) = [])) = true → q ≤ c := by
    rcases hf with ⟨_, hf⟩ | hf
    · have := hf p (mem_dsc.mpr ⟨hp, Nat.le_refl _⟩)
      rw [(good_iff h hp (Nat.le_refl _)).mpr ⟨Nat.dvd_refl _, h⟩] at this
      cases this
    · exact hf
  obtain ⟨g1, g2, g3⟩ := hg
  obtain ⟨q1, q2⟩ := mem_dsc.mp g1
  obtain ⟨_, hq⟩ := (good_iff h q1 q2).mp g2
  have hl := least_of h hq fun c c1 c2 c3 hc => by
    have := g3 c (mem_dsc.mpr ⟨c1, by omega⟩) ((good_iff h c1 (by omega)).mpr ⟨c3, hc⟩)
    omega
  refine ⟨back f q s, q, can_back hq hl, ?_⟩
  have tl : back f q s ≤ s := back_le
  have w := wh_back (f := f) (q := q) (s0 := s) (t := t__law_tl_least_2) (b := b__law_tl_least_3) (fun n => [.d A, .d (.int s), .d (.int p), .d (.int q), y4, y5, .d (.int (n : Nat)), .d A, .no, .no])
    (by unfold t__law_tl_least_2; simp)
    (fun n hn => by
      have a1 := flL_at (f := f) (n := s + p) (i := n) (by omega)
      have a2 := flL_at (f := f) (n := s + p) (i := n + q) (by omega)
      rw [Int.natCast_add] at a2
      have a3 : ((n : Int) + 1 - 1) = n := by omega
      have a4 : (0 : Int) < (n : Int) + 1 := by omega
      subst hA
      unfold t__law_tl_least_2
      simp [a1, a2, a3, a4, qe_bl])
    (fun n hn => by
      unfold b__law_tl_least_3
      simp) s 100000 (Nat.le_refl _) (by omega)
  generalize back f q s = t at w tl ⊢
  have l1 : l__law_tl_least_1 [.d A, .d (.int s), .d (.int p), .d (.int q), y4, y5, .d (.int (t : Nat)), .d A, .no, .no] = some (.ok ((rowI f 0 t).map D.int), [.d A, .d (.int s), .d (.int p), .d (.int q), y4, y5, .d (.int (t : Nat)), .d A, .no, .no]) := by
    rw [← row_of (f := f) (lo := 0) (n := t) (fun d => match d with | .int i => (match atI (flL f (s + p)) i with | some (.bl b) => b | _ => false) | _ => false) fun k hk => by
      have := flL_at (f := f) (n := s + p) (i := k) (by omega)
      simp [this]]
    exact dLcG _ _ (by simp [rng1_v (N := t) (by omega)]) (by simp) (by rw [rngD_len]; omega) (by simp) fun x hx => by
      obtain ⟨k, hk, rfl⟩ := mem_rngD hx
      have := flL_at (f := f) (n := s + p) (i := k) (by omega)
      subst hA
      exact ⟨_, rfl, by simp [this], fun _ => by simp, by simp⟩
  have l0 : l__law_tl_least_0 [.d A, .d (.int s), .d (.int p), .d (.int q), y4, y5, .d (.int (t : Nat)), .d A, .d (.tup ((rowI f 0 t).map D.int)), .no] = some (.ok ((rowI f t q).map D.int), [.d A, .d (.int s), .d (.int p), .d (.int q), y4, y5, .d (.int (t : Nat)), .d A, .d (.tup ((rowI f 0 t).map D.int)), .no]) := by
    rw [← row_of (f := f) (lo := t) (n := q) (fun d => match d with | .int i => (match atI (flL f (s + p)) i with | some (.bl b) => b | _ => false) | _ => false) fun k hk => by
      have := flL_at (f := f) (n := s + p) (i := t + k) (by omega)
      rw [Int.natCast_add] at this
      simp [this]]
    exact dLcG _ _ (by simp [rng2_v (s := t) (n := q) (by omega)]) (by simp) (by rw [rngD_len]; omega) (by simp) fun x hx => by
      obtain ⟨k, hk, rfl⟩ := mem_rngD hx
      have := flL_at (f := f) (n := s + p) (i := t + k) (by omega)
      rw [Int.natCast_add] at this
      subst hA
      exact ⟨_, rfl, by simp [this], fun _ => by simp, by simp⟩
  unfold c__law_tl_least g__law_tl_least
  subst hA
  simp [rngN_v (p := p) (by omega), e, w, l1, l0]
theorem least_in_v {b a : List Int} {s p : Nat} (hp : 1 ≤ p) (hb : s + p ≤ 4000) : ∃ t q, Can (fV b s p a) t q ∧ t ≤ s ∧ q ≤ p ∧ c_least_in [.d (tD b s p a)] = some (.ok (.d (tal (fV b s p a) t q)), []) := by
  obtain ⟨t, q, h1, h2, h3, h4⟩ := tally_v (fV_ep (b := b) (a := a) (s := s) hp) hb
  refine ⟨t, q, h1, h2, h3, ?_⟩
  have f1 := flags_in_v (b := b) (a := a) (s := s) (p := p) (N := s + p) hp (by omega)
  rw [Int.natCast_add] at f1
  have i1 : atI [D.tup (b.map D.int), D.int s, D.int p, D.tup (a.map D.int)] 1 = some (.int s) := rfl
  have i2 : atI [D.tup (b.map D.int), D.int s, D.int p, D.tup (a.map D.int)] 2 = some (.int p) := rfl
  unfold c_least_in g_least_in
  simp [i1, i2, f1, h4]
theorem tl_of_v {b a : List Int} {s p : Nat} (hp : 1 ≤ p) (hb : s + p ≤ 4000) : ∃ t q, Can (fV b s p a) t q ∧ c__law_tl_of [.d (.tup (b.map D.int)), .d (.int s), .d (.int p), .d (.tup (a.map D.int))] = some (.ok (.d (tal (fV b s p a) t q)), []) := by
  obtain ⟨t, q, h1, h4⟩ := tl_least_v (fV_ep (b := b) (a := a) (s := s) hp) hb
  refine ⟨t, q, h1, ?_⟩
  have f1 := tl_flags (b := b) (a := a) (s := s) (p := p) hp (by omega)
  unfold c__law_tl_of g__law_tl_of
  simp [f1, h4]
end K14
end
section
set_option Elab.async false
set_option linter.all false
set_option maxRecDepth 100000
set_option maxHeartbeats 1000000
namespace K14
open PySem PySem.Spec L2 DL SetN
open PyProof.Rows hiding St
theorem isw_iff {l m x : Int} (hl : -100000 ≤ l) (hm : m ≤ 100000) : isw l m x = true ↔ l ≤ x ∧ x ≤ m := by
  unfold isw
  have a1 : (-k_LONGEST : Int) < -100000 := by decide
  have a2 : (100000 : Int) < k_LONGEST := by decide
  rw [Bool.and_eq_true, Bool.and_eq_true, Bool.and_eq_true, decide_eq_true_iff, decide_eq_true_iff, decide_eq_true_iff, decide_eq_true_iff]
  constructor
  · rintro ⟨⟨_, h1⟩, h2⟩; exact ⟨h1, h2⟩
  · rintro ⟨h1, h2⟩
    exact ⟨⟨⟨by omega, by omega⟩, h1⟩, h2⟩
theorem is_row_v (ns : List Int) (l m : Int) (hz : ns.length ≤ 4000) : c_is_row_within [.d (.tup (ns.map D.int)), .d (.int l), .d (.int m)] = some (.ok (.d (.bl (ns.all (isw l m) && incB ns))), []) := by
  have l1 : l_is_row_within_1 [.d (.tup (ns.map D.int)), .d (.int l), .d (.int m), .no, .no] = some (.ok ((ns.map (isw l m)).map D.bl), [.d (.tup (ns.map D.int)), .d (.int l), .d (.int m), .no, .no]) := by
    have e : (ns.map (isw l m)).map D.bl = (ns.map D.int).map fun d => match d with | .int i => .bl (isw l m i) | _ => .non := by
      rw [List.map_map, List.map_map] <;> rfl
    rw [e]
    exact dLcE _ (by simp) (by simp) (by simp; omega) (by simp) fun x hx => by
      obtain ⟨i, _, rfl⟩ := List.mem_map.mp hx
      exact ⟨_, rfl, by simp [is_within_v], by simp⟩
  have l0 : l_is_row_within_0 [.d (.tup (ns.map D.int)), .d (.int l), .d (.int m), .no, .no] = some (.ok (((List.zip ns (ns.drop 1)).map fun t => decide (t.1 < t.2)).map D.bl), [.d (.tup (ns.map D.int)), .d (.int l), .d (.int m), .no, .no]) := by
    have e : ((List.zip ns (ns.drop 1)).map fun t => decide (t.1 < t.2)).map D.bl = ((List.zip ns (ns.drop 1)).map fun t => D.tup [.int t.1, .int t.2]).map fun d => match d with | .tup [.int i, .int j] => .bl (decide (i < j)) | _ => .non := by
      rw [List.map_map, List.map_map] <;> rfl
    have ec : cutG (ns.map D.int) (some 1) none = (ns.drop 1).map D.int := by rw [cut1, List.map_drop]
    have ez := zp_ints ns (ns.drop 1)
    rw [e]
    exact dLcE _ (by simp only [dIt_ap, dFz_ap, dZipT_ap, dSl_ap, dSo_ap, dNo_ap, dK_ap, dVar, bnd_ap, pur_ap, res, cl, DL.intD, tupD, lft_some, oSl, seqD, List.getElem?_cons_zero, ec, ez]) (by simp) (by simp; omega) (by simp) fun x hx => by
      obtain ⟨t, _, rfl⟩ := List.mem_map.mp hx
      exact ⟨_, rfl, by simp, by simp⟩
  have a1 := oAll_bls (ns.map (isw l m))
  have a0 := oAll_bls ((List.zip ns (ns.drop 1)).map fun t => decide (t.1 < t.2))
  have i0 : ((List.zip ns (ns.drop 1)).map fun t => decide (t.1 < t.2)).all id = incB ns := by
    unfold incB
    rw [List.all_map] <;> rfl
  have i1 : (ns.map (isw l m)).all id = ns.all (isw l m) := by rw [List.all_map] <;> rfl
  rw [i0] at a0
  rw [i1] at a1
  generalize ((List.zip ns (ns.drop 1)).map fun t => decide (t.1 < t.2)).map D.bl = z0 at l0 a0
  generalize (ns.map (isw l m)).map D.bl = z1 at l1 a1
  generalize ns.map D.int = nd at l0 l1 ⊢
  unfold c_is_row_within g_is_row_within
  cases h : ns.all (isw l m) <;> rw [h] at a1 <;> simp [l1, a1, l0, a0]
theorem row_ok {ns : List Int} {l m : Int} (hl : -100000 ≤ l) (hm : m ≤ 100000) : (ns.all (isw l m) && incB ns) = true ↔ rowP l m ns := by
  rw [Bool.and_eq_true, incB_iff, List.all_eq_true]
  constructor
  · rintro ⟨a, b⟩
    exact ⟨b, fun x hx => (isw_iff hl hm).mp (a x hx)⟩
  · rintro ⟨a, b⟩
    exact ⟨fun x hx => (isw_iff hl hm).mpr (b x hx), a⟩
open Classical in
theorem is_row_v2 (ns : List Int) (l m : Int) (hz : ns.length ≤ 4000) (hl : -100000 ≤ l) (hm : m ≤ 100000) : c_is_row_within [.d (.tup (ns.map D.int)), .d (.int l), .d (.int m)] = some (.ok (.d (.bl (decide (rowP l m ns)))), []) := by
  rw [is_row_v ns l m hz]
  have e : (ns.all (isw l m) && incB ns) = decide (rowP l m ns) := by rw [Bool.eq_iff_iff, row_ok hl hm, decide_eq_true_iff]
  rw [e]
theorem is_row_no {d : D} {t : String} (h : tyD d = some t) (h2 : t ≠ "tuple") (l m : Int) : c_is_row_within [.d d, .d (.int l), .d (.int m)] = some (.ok (.d (.bl false)), []) := by
  unfold c_is_row_within g_is_row_within
  cases d with
  | tup i => cases h; exact absurd rfl h2
  | glo x => cases h
  | scr x => cases h
  | _ => simp
def toldP (b : List Int) (s p : Int) (a : List Int) : Prop := 0 ≤ s ∧ s ≤ 4000 ∧ 1 ≤ p ∧ p ≤ 4000 ∧ rowP 0 (s - 1) b ∧ rowP s (s + p - 1) a
open Classical in
theorem is_told_v (b a : List Int) (s p : Int) (hb : b.length ≤ 4000) (ha : a.length ≤ 4000) : c_is_told_set [.d (.tup (b.map D.int)), .d (.int s), .d (.int p), .d (.tup (a.map D.int))] = some (.ok (.d (.bl (decide (toldP b s p a)))), []) := by
  have h1 := is_within_v s 0 4000
  have h2 := is_within_v p 1 4000
  unfold c_is_told_set g_is_told_set
  by_cases c1 : 0 ≤ s ∧ s ≤ 4000
  · rw [(isw_iff (by omega) (by omega)).mpr c1] at h1
    by_cases c2 : 1 ≤ p ∧ p ≤ 4000
    · rw [(isw_iff (by omega) (by omega)).mpr c2] at h2
      have h3 := is_row_v2 b 0 (s - 1) hb (by omega) (by omega)
      have h4 := is_row_v2 a s (s + p - 1) ha (by omega) (by omega)
      have e : decide (toldP b s p a) = (decide (rowP 0 (s - 1) b) && decide (rowP s (s + p - 1) a)) := by
        rw [Bool.eq_iff_iff, decide_eq_true_iff, Bool.and_eq_true, decide_eq_true_iff, decide_eq_true_iff]
        exact ⟨fun h => ⟨h.2.2.2.2.1, h.2.2.2.2.2⟩, fun h => ⟨c1.1, c1.2, c2.1, c2.2, h.1, h.2⟩⟩
      rw [e]
      cases h : decide (rowP 0 (s - 1) b) <;> rw [h] at h3 <;> simp [h1, h2, h3, h4]
    · have h2' : isw 1 4000 p = false := by
        cases z : isw 1 4000 p with
        | false => rfl
        | true => exact absurd ((isw_iff (by omega) (by omega)).mp z) c2
      rw [h2'] at h2
      have e : decide (toldP b s p a) = false := decide_eq_false fun h => c2 ⟨h.2.2.1, h.2.2.2.1⟩
      rw [e]
      simp [h1, h2]
  · have h1' : isw 0 4000 s = false := by
      cases z : isw 0 4000 s with
      | false => rfl
      | true => exact absurd ((isw_iff (by omega) (by omega)).mp z) c1
    rw [h1'] at h1
    have e : decide (toldP b s p a) = false := decide_eq_false fun h => c1 ⟨h.1, h.2.1⟩
    rw [e]
    simp [h1]
end K14
end
section
set_option Elab.async false
set_option linter.all false
set_option maxRecDepth 100000
set_option maxHeartbeats 1000000
namespace K14
open PySem PySem.Spec L2 DL SetN
open PyProof.Rows hiding St
open Classical in
theorem is_tally_pos (b a : List Int) (s p : Int) (hb : b.length ≤ 4000) (ha : a.length ≤ 4000) (h : s + p ≤ 4000) (ht : toldP b s p a) (z : D) (hz : c_least_in [.d (tD b s p a)] = some (.ok (.d z), [])) (r : Bool) (hr : oEq z (tD b s p a) = some (.bl r)) :
    c_is_tally [.d (tD b s p a)] = some (.ok (.d (.bl r)), []) := by
  have t1 := is_told_v b a s p hb ha
  rw [decide_eq_true ht] at t1
  have i0 : atI [D.tup (b.map D.int), D.int s, D.int p, D.tup (a.map D.int)] 0 = some (.tup (b.map D.int)) := rfl
  have i1 : atI [D.tup (b.map D.int), D.int s, D.int p, D.tup (a.map D.int)] 1 = some (.int s) := rfl
  have i2 : atI [D.tup (b.map D.int), D.int s, D.int p, D.tup (a.map D.int)] 2 = some (.int p) := rfl
  have i3 : atI [D.tup (b.map D.int), D.int s, D.int p, D.tup (a.map D.int)] 3 = some (.tup (a.map D.int)) := rfl
  unfold c_is_tally g_is_tally
  simp [i0, i1, i2, i3, t1, h, hz, hr, qn_int]
open Classical in
theorem is_tally_neg (b a : List Int) (s p : Int) (hb : b.length ≤ 4000) (ha : a.length ≤ 4000) (h : ¬ (s + p ≤ 4000 ∧ toldP b s p a)) :
    c_is_tally [.d (tD b s p a)] = some (.ok (.d (.bl false)), []) := by
  have t1 := is_told_v b a s p hb ha
  have i0 : atI [D.tup (b.map D.int), D.int s, D.int p, D.tup (a.map D.int)] 0 = some (.tup (b.map D.int)) := rfl
  have i1 : atI [D.tup (b.map D.int), D.int s, D.int p, D.tup (a.map D.int)] 1 = some (.int s) := rfl
  have i2 : atI [D.tup (b.map D.int), D.int s, D.int p, D.tup (a.map D.int)] 2 = some (.int p) := rfl
  have i3 : atI [D.tup (b.map D.int), D.int s, D.int p, D.tup (a.map D.int)] 3 = some (.tup (a.map D.int)) := rfl
  unfold c_is_tally g_is_tally
  by_cases ht : toldP b s p a
  · rw [decide_eq_true ht] at t1
    have h1 : ¬ (s + p ≤ 4000) := fun z => h ⟨z, ht⟩
    simp [i0, i1, i2, i3, t1, h1, qn_int]
  · rw [decide_eq_false ht] at t1
    simp [i0, i1, i2, i3, t1, qn_int]
theorem rowI_in {f : Nat → Bool} {lo n : Nat} {l m : Int} (h1 : l ≤ lo) (h2 : (lo : Int) + n ≤ m + 1) : rowP l m (rowI f lo n) := ⟨rowI_pw f lo n, fun x hx => by
  obtain ⟨i, i1, i2, _, rfl⟩ := mem_rowI.mp hx
  omega⟩
open Classical in
/-- least tallies are judged so -/
theorem tal_ok {f : Nat → Bool} {t q : Nat} (c : Can f t q) (hb : t + q ≤ 4000) : c_is_tally [.d (tal f t q)] = some (.ok (.d (.bl true)), []) := by
  have hq := c.ep.1
  obtain ⟨t2, q2, c2, _, _, e⟩ := least_in_v (b := rowI f 0 t) (a := rowI f t q) (s := t) hq hb
  rw [fV_tal c.ep] at c2 e
  obtain ⟨rfl, rfl⟩ := c.uniq c2
  have he := qe_tD (rowI f 0 t) (rowI f 0 t) t t q q (rowI f t q) (rowI f t q)
  rw [decide_eq_true ⟨rfl, rfl, rfl, rfl⟩] at he
  exact is_tally_pos _ _ _ _ (Nat.le_trans (rowI_len _ _ _) (by omega)) (Nat.le_trans (rowI_len _ _ _) (by omega)) (by omega) ⟨by omega, by omega, by omega, by omega, rowI_in (by omega) (by omega), rowI_in (by omega) (by omega)⟩ _ e _ he
theorem req_aux {T : D} (h : c_is_tally [.d T] = some (.ok (.d (.bl true)), [])) : c_require_tally [.d T] = some (.ok (.d .non), []) := by
  unfold c_require_tally g_require_tally
  simp [h]
theorem req_tally {f : Nat → Bool} {t q : Nat} (c : Can f t q) (hb : t + q ≤ 4000) : c_require_tally [.d (tal f t q)] = some (.ok (.d .non), []) := req_aux (tal_ok c hb)
theorem tally_of_aux {B A T : D} {s p : Int} (t1 : c_is_told_set [.d B, .d (.int s), .d (.int p), .d A] = some (.ok (.d (.bl true)), [])) (c3 : ¬ ((4000 : Int) < s + p)) (h4 : c_least_in [.d (.tup [B, .int s, .int p, A])] = some (.ok (.d T), [])) :
    c_tally_of [.d B, .d (.int s), .d (.int p), .d A] = some (.ok (.d T), []) := by
  unfold c_tally_of g_tally_of
  simp [t1, c3, h4]
open Classical in
theorem tally_of_v {b a : List Int} {s p : Nat} (hp : 1 ≤ p) (hb : s + p ≤ 4000) (hbl : b.length ≤ 4000) (hal : a.length ≤ 4000) (hr : rowP 0 ((s : Int) - 1) b) (hr2 : rowP s ((s : Int) + p - 1) a) : ∃ t q, Can (fV b s p a) t q ∧ t ≤ s ∧ q ≤ p ∧ c_tally_of [.d (.tup (b.map D.int)), .d (.int s), .d (.int p), .d (.tup (a.map D.int))] = some (.ok (.d (tal (fV b s p a) t q)), []) := by
  obtain ⟨t, q, h1, h2, h3, h4⟩ := least_in_v (b := b) (a := a) hp hb
  refine ⟨t, q, h1, h2, h3, ?_⟩
  have t1 := is_told_v b a s p hbl hal
  rw [decide_eq_true (show toldP b s p a from ⟨by omega, by omega, by omega, by omega, hr, hr2⟩)] at t1
  exact tally_of_aux t1 (by omega) h4
end K14
end
section
set_option Elab.async false
set_option linter.all false
set_option maxRecDepth 100000
set_option maxHeartbeats 1000000
namespace K14
open PySem PySem.Spec L2 DL SetN
open PyProof.Rows hiding St
theorem has_in_tal {f : Nat → Bool} {t q : Nat} (c : EP f t q) (n : Nat) : c_has_in [.d (tal f t q), .d (.int n)] = some (.ok (.d (.bl (f n))), []) := by
  have h3 := has_in_v (b := rowI f 0 t) (a := rowI f t q) (s := t) (p := q) (n := n) (by have := c.1; omega)
  rw [hasV_tal c] at h3
  exact h3
theorem req_from_v {n l m : Int} (h : isw l m n = true) : c_require_from [.d (.int n), .d (.int l), .d (.int m)] = some (.ok (.d .non), []) := by
  have e := is_within_v n l m
  rw [h] at e
  unfold c_require_from g_require_from
  simp [e]
end K14
end
section
set_option Elab.async false
set_option linter.all false
set_option maxRecDepth 100000
set_option maxHeartbeats 1000000
namespace K14
open PySem PySem.Spec L2 DL SetN
open PyProof.Rows hiding St
theorem cm_wh (A B : D) : ∀ (n a b fuel : Nat), b < n → n ≤ fuel → a ≤ 8000 → b ≤ 8000 → wh t_common_multiple_0 b_common_multiple_1 fuel [.d A, .d B, .d (.int a), .d (.int b)] = some (.nx, [.d A, .d B, .d (.int ((gcdL n a b : Nat) : Int)), .d (.int 0)])
  | 0, _, _, _, h, _, _, _ => by omega
  | n + 1, a, b, 0, _, h, _, _ => by omega
  | n + 1, a, b, fuel + 1, h, hf, ha, hb => by
    unfold wh
    by_cases c : b = 0
    · subst c
      have e : t_common_multiple_0 [.d A, .d B, .d (.int a), .d (.int ((0 : Nat) : Int))] = some (.ok false, [.d A, .d B, .d (.int a), .d (.int ((0 : Nat) : Int))]) := by
        unfold t_common_multiple_0
        simp [qn_int]
      rw [e]
      unfold gcdL
      rw [if_pos rfl] <;> rfl
    · have e : t_common_multiple_0 [.d A, .d B, .d (.int a), .d (.int b)] = some (.ok true, [.d A, .d B, .d (.int a), .d (.int b)]) := by
        have c' : ¬ ((b : Int) = 0) := by omega
        unfold t_common_multiple_0
        simp [qn_int, c]
      have e2 : b_common_multiple_1 [.d A, .d B, .d (.int a), .d (.int b)] = some (.nx, [.d A, .d B, .d (.int b), .d (.int ((a % b : Nat) : Int))]) := by
        have m := oMod_pos (i := a) (j := b) (by omega)
        rw [← Int.natCast_emod] at m
        generalize ((a % b : Nat) : Int) = z at m ⊢
        unfold b_common_multiple_1
        simp [m, setX]
      rw [e]
      show (match b_common_multiple_1 [.d A, .d B, .d (.int a), .d (.int b)] with
        | some (.nx, ρ2) => wh t_common_multiple_0 b_common_multiple_1 fuel ρ2
        | some (.ct, ρ2) => wh t_common_multiple_0 b_common_multiple_1 fuel ρ2
        | some (.bk, ρ2) => some (.nx, ρ2)
        | r => r) = _
      rw [e2]
      have lt := Nat.mod_lt a (show b > 0 by omega)
      have r := cm_wh A B n b (a % b) fuel (by omega) (by omega) hb (by omega)
      unfold gcdL
      rw [if_neg c]
      exact r
theorem cm_aux {a b g d m : Int} (w : wh t_common_multiple_0 b_common_multiple_1 100000 [.d (.int a), .d (.int b), .d (.int a), .d (.int b)] = some (.nx, [.d (.int a), .d (.int b), .d (.int g), .d (.int 0)])) (hd : oDiv (.int a) (.int g) = some (.int d)) (hm : oMul (.int d) (.int b) = some (.int m)) : c_common_multiple [.d (.int a), .d (.int b)] = some (.ok (.d (.int m)), []) := by
  unfold c_common_multiple g_common_multiple
  simp [w, hd, hm, setX]
theorem mul_small {a b : Nat} (ha : a ≤ 8000) (hb : b ≤ 8000) : oMul (.int a) (.int b) = some (.int ((a * b : Nat) : Int)) := by
  unfold oMul
  show (if ((a : Int)).natAbs.log2 + ((b : Int)).natAbs.log2 < 1000000 then some (D.int ((a : Int) * b)) else none) = _
  rw [Int.natAbs_natCast, Int.natAbs_natCast, if_pos (by have := log2_small ha; have := log2_small hb; omega), Int.natCast_mul]
theorem common_multiple_v {a b : Nat} (ha : 1 ≤ a) (hb : 1 ≤ b) (ha2 : a ≤ 4000) (hb2 : b ≤ 4000) : c_common_multiple [.d (.int a), .d (.int b)] = some (.ok (.d (.int ((Nat.lcm a b : Nat) : Int))), []) := by
  have w := cm_wh (.int a) (.int b) (b + 1) a b 100000 (by omega) (by omega) (by omega) (by omega)
  rw [gcdL_eq _ _ _ (by omega)] at w
  have g1 : 1 ≤ Nat.gcd a b := Nat.gcd_pos_of_pos_left _ ha
  have g2 : Nat.gcd a b ≤ a := Nat.gcd_le_left _ ha
  have hd := oDiv_v (a := a) (b := Nat.gcd a b) g1 (by omega)
  have hm := mul_small (a := a / Nat.gcd a b) (b := b) (Nat.le_trans (Nat.div_le_self _ _) (by omega)) (by omega)
  have e : a / Nat.gcd a b * b = Nat.lcm a b := by
    unfold Nat.lcm
    rw [Nat.mul_comm a b, Nat.mul_div_assoc _ (Nat.gcd_dvd_left a b), Nat.mul_comm]
  rw [e] at hm
  exact cm_aux w hd hm
theorem req_bound_v {n : Nat} (h : n ≤ 4000) : c_require_bound [.d (.int n)] = some (.ok (.d .non), []) := by
  have c : ¬ ((4000 : Int) < n) := by omega
  unfold c_require_bound g_require_bound
  simp [c]
/-- two lists of flags, item by item -/
theorem zp_fl (f g : Nat → Bool) (n : Nat) : zpD (flL f n) (flL g n) = (List.range n).map fun i => .tup [.bl (f i), .bl (g i)] := by
  unfold zpD flL
  rw [List.map_map, List.map_map, List.zipWith_map, List.zipWith_self]
  rfl
theorem mem_zp {f g : Nat → Bool} {n : Nat} {x : D} (h : x ∈ zpD (flL f n) (flL g n)) : ∃ i, i < n ∧ x = .tup [.bl (f i), .bl (g i)] := by
  rw [zp_fl] at h
  obtain ⟨i, hi, rfl⟩ := List.mem_map.mp h
  exact ⟨i, List.mem_range.mp hi, rfl⟩
theorem max_v (a b : Nat) : oMax [.int a, .int b] = some (.int ((max a b : Nat) : Int)) := by
  have e : ((max a b : Nat) : Int) = if (b : Int) > (a : Int) then (b : Int) else a := by
    by_cases c : a < b
    · rw [Nat.max_eq_right (by omega), if_pos (by omega)]
    · rw [Nat.max_eq_left (by omega), if_neg (by omega)]
  rw [e] <;> rfl
theorem flags_tal {f : Nat → Bool} {t q N : Nat} (c : EP f t q) (hN : N ≤ 10000) : c_flags_in [.d (tal f t q), .d (.int N)] = some (.ok (.d (.lst (flL f N))), []) := by
  have h := flags_in_v (b := rowI f 0 t) (a := rowI f t q) (s := t) (p := q) (N := N) c.1 hN
  rw [fV_tal c] at h
  exact h
end K14
end
section
set_option Elab.async false
set_option linter.all false
set_option maxRecDepth 100000
set_option maxHeartbeats 1000000
namespace K14
open PySem PySem.Spec L2 DL SetN
open PyProof.Rows hiding St
theorem fl_map (F : Nat → Bool) (n : Nat) : flL F n = (List.range n).map fun i => D.bl (F i) := by
  unfold flL
  rw [List.map_map] <;> rfl
theorem ei_lc {A B : D} {f g : Nat → Bool} {s p : Int} {N : Nat} (hs : s + p = (N : Int)) (hN : N ≤ 10000) (hA : c_flags_in [.d A, .d (.int N)] = some (.ok (.d (.lst (flL f N))), [])) (hB : c_flags_in [.d B, .d (.int N)] = some (.ok (.d (.lst (flL g N))), [])) :
    l_either_in_0 [.d A, .d B, .d (.int s), .d (.int p), .no, .no, .no] = some (.ok (flL (orF f g) N), [.d A, .d B, .d (.int s), .d (.int p), .no, .no, .no]) := by
  have q : l_either_in_0 _ = _ := dLcE (ρ := [.d A, .d B, .d (.int s), .d (.int p), .no, .no, .no]) (ρ1 := [.d A, .d B, .d (.int s), .d (.int p), .no, .no, .no]) (xs := zpD (flL f N) (flL g N)) (fun d => match d with | .tup [.bl a, .bl b] => .bl (a || b) | _ => .non) (by simp [hA, hB, hs]) (by simp) (by rw [zp_fl, List.length_map, List.length_range]; omega) (by simp) (fun x hx => by
    obtain ⟨i, hi, rfl⟩ := mem_zp hx
    exact ⟨_, rfl, by cases f i <;> simp, by simp⟩)
  rw [q, zp_fl, List.map_map, fl_map] <;> rfl
theorem ei_aux {A B T : D} {s1 s2 p1 p2 s p N : Int} {fl : List D} (a1 : oIx A (.int 1) = some (.int s1)) (a2 : oIx A (.int 2) = some (.int p1)) (b1 : oIx B (.int 1) = some (.int s2)) (b2 : oIx B (.int 2) = some (.int p2)) (hm : oMax [.int s1, .int s2] = some (.int s))
    (hc : c_common_multiple [.d (.int p1), .d (.int p2)] = some (.ok (.d (.int p)), [])) (hN : s + p = N) (hb : c_require_bound [.d (.int N)] = some (.ok (.d .non), [])) (hl : l_either_in_0 [.d A, .d B, .d (.int s), .d (.int p), .no, .no, .no] = some (.ok fl, [.d A, .d B, .d (.int s), .d (.int p), .no, .no, .no]))
    (ht : c_tally_of_flags [.d (.lst fl), .d (.int s)] = some (.ok (.d T), [])) : c_either_in [.d A, .d B] = some (.ok (.d T), []) := by
  unfold c_either_in g_either_in
  simp [a1, a2, b1, b2, hm, hc, hN, hb, hl, ht, setX, -oIx, -oMax]
theorem either_in_v {f g : Nat → Bool} {t q t' q' : Nat} (c : Can f t q) (c' : Can g t' q') (h1 : q ≤ 4000) (h2 : q' ≤ 4000) (hb : max t t' + Nat.lcm q q' ≤ 4000) : ∃ T Q, Can (orF f g) T Q ∧ T ≤ max t t' ∧ Q ≤ Nat.lcm q q' ∧ c_either_in [.d (tal f t q), .d (tal g t' q')] = some (.ok (.d (tal (orF f g) T Q)), []) := by
  obtain ⟨T, Q, k1, k2, k3, k4⟩ := tally_v (c.ep.orL c'.ep) hb
  refine ⟨T, Q, k1, k2, k3, ?_⟩
  have hc := common_multiple_v (a := q) (b := q') c.ep.1 c'.ep.1 h1 h2
  have hN : ((max t t' : Nat) : Int) + (Nat.lcm q q' : Nat) = ((max t t' + Nat.lcm q q' : Nat) : Int) := (Int.natCast_add _ _).symm
  exact ei_aux rfl rfl rfl rfl (max_v t t') hc hN (req_bound_v hb) (ei_lc hN (by omega) (flags_tal c.ep (by omega)) (flags_tal c'.ep (by omega))) k4
theorem either_aux {A B T : D} (h1 : c_require_tally [.d A] = some (.ok (.d .non), [])) (h2 : c_require_tally [.d B] = some (.ok (.d .non), [])) (h3 : c_either_in [.d A, .d B] = some (.ok (.d T), [])) : c_either [.d A, .d B] = some (.ok (.d T), []) := by
  unfold c_either g_either
  simp [h1, h2, h3]
theorem either_v {f g : Nat → Bool} {t q t' q' : Nat} (c : Can f t q) (c' : Can g t' q') (h1 : t + q ≤ 4000) (h2 : t' + q' ≤ 4000) (hb : max t t' + Nat.lcm q q' ≤ 4000) : ∃ T Q, Can (orF f g) T Q ∧ T ≤ max t t' ∧ Q ≤ Nat.lcm q q' ∧ c_either [.d (tal f t q), .d (tal g t' q')] = some (.ok (.d (tal (orF f g) T Q)), []) := by
  obtain ⟨T, Q, k1, k2, k3, k4⟩ := either_in_v c c' (by omega) (by omega) hb
  exact ⟨T, Q, k1, k2, k3, either_aux (req_tally c h1) (req_tally c' h2) k4⟩
theorem bo_lc {A B : D} {f g : Nat → Bool} {s p : Int} {N : Nat} (hs : s + p = (N : Int)) (hN : N ≤ 10000) (hA : c_flags_in [.d A, .d (.int N)] = some (.ok (.d (.lst (flL f N))), [])) (hB : c_flags_in [.d B, .d (.int N)] = some (.ok (.d (.lst (flL g N))), [])) :
    l_both_0 [.d A, .d B, .d (.int s), .d (.int p), .no, .no, .no] = some (.ok (flL (anF f g) N), [.d A, .d B, .d (.int s), .d (.int p), .no, .no, .no]) := by
  have q : l_both_0 _ = _ := dLcE (ρ := [.d A, .d B, .d (.int s), .d (.int p), .no, .no, .no]) (ρ1 := [.d A, .d B, .d (.int s), .d (.int p), .no, .no, .no]) (xs := zpD (flL f N) (flL g N)) (fun d => match d with | .tup [.bl a, .bl b] => .bl (a && b) | _ => .non) (by simp [hA, hB, hs]) (by simp) (by rw [zp_fl, List.length_map, List.length_range]; omega) (by simp) (fun x hx => by
    obtain ⟨i, hi, rfl⟩ := mem_zp hx
    exact ⟨_, rfl, by cases f i <;> simp, by simp⟩)
  rw [q, zp_fl, List.map_map, fl_map] <;> rfl
theorem bo_aux {A B T : D} {s1 s2 p1 p2 s p N : Int} {fl : List D} (q1 : c_require_tally [.d A] = some (.ok (.d .non), [])) (q2 : c_require_tally [.d B] = some (.ok (.d .non), [])) (a1 : oIx A (.int 1) = some (.int s1)) (a2 : oIx A (.int 2) = some (.int p1)) (b1 : oIx B (.int 1) = some (.int s2)) (b2 : oIx B (.int 2) = some (.int p2)) (hm : oMax [.int s1, .int s2] = some (.int s))
    (hc : c_common_multiple [.d (.int p1), .d (.int p2)] = some (.ok (.d (.int p)), [])) (hN : s + p = N) (hb : c_require_bound [.d (.int N)] = some (.ok (.d .non), [])) (hl : l_both_0 [.d A, .d B, .d (.int s), .d (.int p), .no, .no, .no] = some (.ok fl, [.d A, .d B, .d (.int s), .d (.int p), .no, .no, .no]))
    (ht : c_tally_of_flags [.d (.lst fl), .d (.int s)] = some (.ok (.d T), [])) : c_both [.d A, .d B] = some (.ok (.d T), []) := by
  unfold c_both g_both
  simp [q1, q2, a1, a2, b1, b2, hm, hc, hN, hb, hl, ht, setX, -oIx, -oMax]
theorem both_v {f g : Nat → Bool} {t q t' q' : Nat} (c : Can f t q) (c' : Can g t' q') (h1 : t + q ≤ 4000) (h2 : t' + q' ≤ 4000) (hb : max t t' + Nat.lcm q q' ≤ 4000) : ∃ T Q, Can (anF f g) T Q ∧ T ≤ max t t' ∧ Q ≤ Nat.lcm q q' ∧ c_both [.d (tal f t q), .d (tal g t' q')] = some (.ok (.d (tal (anF f g) T Q)), []) := by
  obtain ⟨T, Q, k1, k2, k3, k4⟩ := tally_v (c.ep.anL c'.ep) hb
  refine ⟨T, Q, k1, k2, k3, ?_⟩
  have hc := common_multiple_v (a := q) (b := q') c.ep.1 c'.ep.1 (by omega) (by omega)
  have hN : ((max t t' : Nat) : Int) + (Nat.lcm q q' : Nat) = ((max t t' + Nat.lcm q q' : Nat) : Int) := (Int.natCast_add _ _).symm
  exact bo_aux (req_tally c h1) (req_tally c' h2) rfl rfl rfl rfl (max_v t t') hc hN (req_bound_v hb) (bo_lc hN (by omega) (flags_tal c.ep (by omega)) (flags_tal c'.ep (by omega))) k4
theorem sh_fl (f : Nat → Bool) (n m : Nat) : List.replicate n (D.bl false) ++ flL f m = flL (shF f n) (n + m) := by
  rw [fl_map, fl_map, List.range_add, List.map_append, List.map_map]
  congr 1
  · have e : (List.range n).map (fun i => D.bl (shF f n i)) = (List.range n).map fun _ => D.bl false := List.map_congr_left fun i hi => by
      have := List.mem_range.mp hi
      unfold shF
      rw [decide_eq_false (by omega)] <;> rfl
    rw [e, List.map_const', List.length_range]
  · refine List.map_congr_left fun i hi => ?_
    show _ = D.bl (shF f n (n + i))
    unfold shF
    rw [decide_eq_true (Nat.le_add_right n i), Nat.add_sub_cancel_left, Bool.true_and]
theorem mv_aux {A T : D} {t q n s N M : Int} {fl gl : List D} {k : Nat} (a1 : oIx A (.int 1) = some (.int t)) (a2 : oIx A (.int 2) = some (.int q)) (hs : t + n = s) (hN : s + q = N) (hM : t + q = M) (hb : c_require_bound [.d (.int N)] = some (.ok (.d .non), [])) (hf : c_flags_in [.d A, .d (.int M)] = some (.ok (.d (.lst fl)), []))
    (hr : oMul (.lst [.bl false]) (.int n) = some (.lst (List.replicate k (.bl false)))) (ha : oAdd (.lst (List.replicate k (.bl false))) (.lst fl) = some (.lst gl)) (ht : c_tally_of_flags [.d (.lst gl), .d (.int s)] = some (.ok (.d T), [])) : c_moved_in [.d A, .d (.int n)] = some (.ok (.d T), []) := by
  unfold c_moved_in g_moved_in
  simp [a1, a2, hs, hN, hM, hb, hf, hr, ha, ht, setX, -oIx]
theorem add_lst {xs ys : List D} (h : xs.length + ys.length ≤ 16777216) : oAdd (.lst xs) (.lst ys) = some (.lst (xs ++ ys)) := by
  show (match (none : Option D) with
    | some z => some z
    | none => _) = _
  simp [oCat, h, oAdd, oAddI, oCatT]
theorem moved_in_v {f : Nat → Bool} {t q n : Nat} (c : Can f t q) (hb : t + n + q ≤ 4000) : ∃ T Q, Can (shF f n) T Q ∧ T ≤ t + n ∧ Q ≤ q ∧ c_moved_in [.d (tal f t q), .d (.int n)] = some (.ok (.d (tal (shF f n) T Q)), []) := by
  obtain ⟨T, Q, k1, k2, k3, k4⟩ := tally_v (c.ep.sh n) hb
  refine ⟨T, Q, k1, k2, k3, ?_⟩
  have hr := oMul_rep (xs := [D.bl false]) (k := n) (by omega) (by simp; omega)
  have er : (List.replicate n [D.bl false]).flatten = List.replicate n (D.bl false) := by simp
  rw [er] at hr
  have ha := add_lst (xs := List.replicate n (D.bl false)) (ys := flL f (t + q)) (by rw [List.length_replicate, flL_len]; omega)
  rw [sh_fl] at ha
  have e1 : n + (t + q) = t + n + q := by omega
  rw [e1] at ha
  exact mv_aux rfl rfl (Int.natCast_add _ _).symm (Int.natCast_add _ _).symm (Int.natCast_add _ _).symm (req_bound_v hb) (flags_tal c.ep (by omega)) hr ha k4
theorem moved_aux {A T : D} {n : Int} (h1 : c_require_tally [.d A] = some (.ok (.d .non), [])) (h2 : c_require_from [.d (.int n), .d (.int 0), .d (.int 1000)] = some (.ok (.d .non), [])) (h3 : c_moved_in [.d A, .d (.int n)] = some (.ok (.d T), [])) : c_moved [.d A, .d (.int n)] = some (.ok (.d T), []) := by
  unfold c_moved g_moved
  simp [h1, h2, h3]
theorem moved_v {f : Nat → Bool} {t q n : Nat} (c : Can f t q) (hn : n ≤ 1000) (hb : t + n + q ≤ 4000) : ∃ T Q, Can (shF f n) T Q ∧ T ≤ t + n ∧ Q ≤ q ∧ c_moved [.d (tal f t q), .d (.int n)] = some (.ok (.d (tal (shF f n) T Q)), []) := by
  obtain ⟨T, Q, k1, k2, k3, k4⟩ := moved_in_v c hb
  exact ⟨T, Q, k1, k2, k3, moved_aux (req_tally c (by omega)) (req_from_v ((isw_iff (by omega) (by decide)).mpr ⟨by omega, by omega⟩)) k4⟩
/-! sums -/
def setF (F : Nat → Bool) (k : Nat) : Nat → Bool := fun n => F n || decide (n = k)
theorem set_fl (F : Nat → Bool) (N k : Nat) : (flL F N).set k (.bl true) = flL (setF F k) N := by
  rw [fl_map, fl_map]
  refine List.ext_getElem? fun i => ?_
  by_cases h : i = k
  · subst h
    by_cases l : i < N
    · rw [List.getElem?_set_self (by simpa using l)]
      simp [l, setF]
    · rw [List.getElem?_eq_none (by simpa using l), List.getElem?_eq_none (by simpa using l)]
  · rw [List.getElem?_set_ne (Ne.symm h)]
    by_cases l : i < N
    · simp [l, setF, h]
    · rw [List.getElem?_eq_none (by simpa using l), List.getElem?_eq_none (by simpa using l)]
theorem fl_congr {F G : Nat → Bool} {N : Nat} (h : ∀ n, n < N → F n = G n) : flL F N = flL G N := by
  rw [fl_map, fl_map]
  exact List.map_congr_left fun i hi => by rw [h i (List.mem_range.mp hi)]
def addF (F : Nat → Bool) (a : Nat) (js : List Nat) : Nat → Bool := fun n => F n || js.any fun j => decide (n = a + j)
theorem so_body {A B S : D} {N a j : Nat} {F : Nat → Bool} {x5 : Sl} : b_sums_of_0 [.d A, .d B, .d (.int N), .o none (flL F N), .d (.int a), x5, .d S, .d (.int j)] = some (.nx, [.d A, .d B, .d (.int N), .o none (flL (setF F (a + j)) N), .d (.int a), x5, .d S, .d (.int j)]) := by
  have hz : (a : Int) + j = ((a + j : Nat) : Int) := (Int.natCast_add _ _).symm
  unfold b_sums_of_0
  by_cases h : a + j < N
  · have h' : (((a + j : Nat) : Int)) < (N : Int) := by omega
    have hp : putD ((a + j : Nat) : Int) (.bl true) (flL F N) = some (flL (setF F (a + j)) N) := by
      unfold putD ixN
      rw [flL_len, if_pos (by omega), if_pos (by omega), Int.toNat_natCast]
      show some ((flL F N).set (a + j) (.bl true)) = _
      rw [set_fl]
    generalize ((a + j : Nat) : Int) = z at hz h' hp
    simp [hz, h', hp, -putD]
  · have h' : ¬ (((a + j : Nat) : Int)) < (N : Int) := by omega
    have e : flL F N = flL (setF F (a + j)) N := fl_congr fun n hn => by
      unfold setF
      rw [decide_eq_false (by omega), Bool.or_false]
    rw [← e]
    generalize ((a + j : Nat) : Int) = z at hz h'
    simp [hz, h']
theorem so_in {A B S : D} {N a : Nat} {x5 : Sl} : ∀ (js : List Nat) (F : Nat → Bool) (x7 : Sl), ∃ y7, fo (tgN 7) b_sums_of_0 (js.map fun j => .int (j : Nat)) [.d A, .d B, .d (.int N), .o none (flL F N), .d (.int a), x5, .d S, x7] = some (.nx, [.d A, .d B, .d (.int N), .o none (flL (addF F a js) N), .d (.int a), x5, .d S, y7])
  | [], F, x7 => ⟨x7, by
    have e : addF F a [] = F := funext fun n => Bool.or_false _
    rw [e] <;> rfl⟩
  | j :: js, F, x7 => by
    obtain ⟨y7, e⟩ := so_in (A := A) (B := B) (S := S) (N := N) (a := a) (x5 := x5) js (setF F (a + j)) (.d (.int j))
    have ea : addF (setF F (a + j)) a js = addF F a (j :: js) := funext fun n => by
      unfold addF setF
      rw [List.any_cons, Bool.or_assoc]
    rw [ea] at e
    refine ⟨y7, ?_⟩
    rw [List.map_cons]
    unfold fo
    rw [tgN_ap]
    show (match b_sums_of_0 [.d A, .d B, .d (.int N), .o none (flL F N), .d (.int a), x5, .d S, .d (.int j)] with
      | some (.nx, ρ2) => fo (tgN 7) b_sums_of_0 (js.map fun j => .int (j : Nat)) ρ2
      | some (.ct, ρ2) => fo (tgN 7) b_sums_of_0 (js.map fun j => .int (j : Nat)) ρ2
      | some (.bk, ρ2) => some (.nx, ρ2)
      | r => r) = _
    rw [so_body]
    exact e
def sumF2 (F f : Nat → Bool) (js ks : List Nat) : Nat → Bool := fun n => F n || ks.any fun k => f k && js.any fun j => decide (n = k + j)
theorem so_out {A B : D} {N : Nat} {f : Nat → Bool} {js : List Nat} : ∀ (ks : List Nat) (F : Nat → Bool) (x4 x5 x7 : Sl), ∃ y4 y5 y7, fo (tgT 2 (tgCons (tgN 4) (tgCons (tgN 5) tgNil))) b_sums_of_1 (ks.map fun k => .tup [.int (k : Nat), .bl (f k)]) [.d A, .d B, .d (.int N), .o none (flL F N), x4, x5, .d (.lst (js.map fun j => .int (j : Nat))), x7] =
    some (.nx, [.d A, .d B, .d (.int N), .o none (flL (sumF2 F f js ks) N), y4, y5, .d (.lst (js.map fun j => .int (j : Nat))), y7])
  | [], F, x4, x5, x7 => ⟨x4, x5, x7, by
    have e : sumF2 F f js [] = F := funext fun n => Bool.or_false _
    rw [e] <;> rfl⟩
  | k :: ks, F, x4, x5, x7 => by
    have step : ∃ y7, b_sums_of_1 [.d A, .d B, .d (.int N), .o none (flL F N), .d (.int k), .d (.bl (f k)), .d (.lst (js.map fun j => .int (j : Nat))), x7] = some (.nx, [.d A, .d B, .d (.int N), .o none (flL (if f k then addF F k js else F) N), .d (.int k), .d (.bl (f k)), .d (.lst (js.map fun j => .int (j : Nat))), y7]) := by
      obtain ⟨y7, e⟩ := so_in (A := A) (B := B) (S := .lst (js.map fun j => .int (j : Nat))) (N := N) (a := k) (x5 := .d (.bl (f k))) js F x7
      generalize hJ : (js.map fun j => D.int (j : Nat)) = J at e ⊢
      unfold b_sums_of_1
      cases h : f k with
      | true => rw [h] at e; exact ⟨y7, by simp [e]⟩
      | false => exact ⟨x7, by simp⟩
    obtain ⟨y7, e1⟩ := step
    obtain ⟨z4, z5, z7, e2⟩ := so_out (A := A) (B := B) (N := N) (f := f) (js := js) ks (if f k then addF F k js else F) (.d (.int k)) (.d (.bl (f k))) y7
    have ea : sumF2 (if f k then addF F k js else F) f js ks = sumF2 F f js (k :: ks) := funext fun n => by
      unfold sumF2
      rw [List.any_cons]
      cases h : f k with
      | true => simp only [if_true, Bool.true_and]; unfold addF; rw [Bool.or_assoc]
      | false => simp
    rw [ea] at e2
    refine ⟨z4, z5, z7, ?_⟩
    rw [List.map_cons]
    unfold fo
    show (match b_sums_of_1 [.d A, .d B, .d (.int N), .o none (flL F N), .d (.int k), .d (.bl (f k)), .d (.lst (js.map fun j => .int (j : Nat))), x7] with
      | some (.nx, ρ2) => fo (tgT 2 (tgCons (tgN 4) (tgCons (tgN 5) tgNil))) b_sums_of_1 (ks.map fun k => .tup [.int (k : Nat), .bl (f k)]) ρ2
      | some (.ct, ρ2) => fo (tgT 2 (tgCons (tgN 4) (tgCons (tgN 5) tgNil))) b_sums_of_1 (ks.map fun k => .tup [.int (k : Nat), .bl (f k)]) ρ2
      | some (.bk, ρ2) => some (.nx, ρ2)
      | r => r) = _
    rw [e1]
    exact e2
theorem en_fl (f : Nat → Bool) (N : Nat) : enD (flL f N) = (List.range N).map fun k => .tup [.int (k : Nat), .bl (f k)] := by
  refine List.ext_getElem? fun i => ?_
  by_cases l : i < N
  · have h1 : i < (enD (flL f N)).length := by rw [enD_len, flL_len]; exact l
    obtain ⟨k, hk, e⟩ := mem_en (x := (enD (flL f N))[i]) (List.getElem_mem h1)
    have e3 : (enD (flL f N))[i]? = some (.tup [.int (i : Nat), .bl (f i)]) := by
      simp [enD, flL, l]
    rw [e3]
    simp [l]
  · rw [List.getElem?_eq_none (by rw [enD_len, flL_len]; omega), List.getElem?_eq_none (by simpa using l)]
theorem so_aux {N : Nat} {A B : D} {S en R : List D} {y4 y5 y7 : Sl} (ha : oLen [A] = some (.int N)) (hr : oRep (.lst [.bl false]) (.int N) = some (flL noF N)) (hs : l_sums_of_2 [.d A, .d B, .d (.int N), .o none (flL noF N), .no, .no, .no, .no] = some (.ok S, [.d A, .d B, .d (.int N), .o none (flL noF N), .no, .no, .no, .no]))
    (he : lstD A = some en) (hf : fo (tgT 2 (tgCons (tgN 4) (tgCons (tgN 5) tgNil))) b_sums_of_1 (enD en) [.d A, .d B, .d (.int N), .o none (flL noF N), .no, .no, .d (.lst S), .no] = some (.nx, [.d A, .d B, .d (.int N), .o none R, y4, y5, .d (.lst S), y7])) : c_sums_of [.d A, .d B] = some (.ok (.d (.lst R)), []) := by
  unfold c_sums_of g_sums_of
  simp [ha, hr, hs, he, hf, setX, -oLen, -lstD]
theorem sums_of_v (f g : Nat → Bool) {N : Nat} (hN : N ≤ 4000) : c_sums_of [.d (.lst (flL f N)), .d (.lst (flL g N))] = some (.ok (.d (.lst (flL (smF f g) N))), []) := by
  generalize hA : D.lst (flL f N) = A
  generalize hB : D.lst (flL g N) = B
  have ha : oLen [A] = some (.int N) := by
    subst hA
    simp [oLen, flL_len]
  have hr : oRep (.lst [.bl false]) (.int N) = some (flL noF N) := by
    have er : (List.replicate N [D.bl false]).flatten = flL noF N := by
      rw [fl_map]
      show _ = (List.range N).map fun _ => D.bl false
      rw [List.map_const', List.length_range]
      simp
    rw [← er]
    show (if SmI (N : Int) ∧ [D.bl false].length * ((N : Int)).toNat ≤ 16777216 then some (List.replicate ((N : Int)).toNat [D.bl false]).flatten else none) = _
    rw [Int.toNat_natCast, if_pos ⟨SmI.of (by omega), by simp; omega⟩]
  have hs : l_sums_of_2 [.d A, .d B, .d (.int N), .o none (flL noF N), .no, .no, .no, .no] = some (.ok ((rowI g 0 N).map D.int), [.d A, .d B, .d (.int N), .o none (flL noF N), .no, .no, .no, .no]) := by
    rw [← en_of]
    exact dLcG _ _ (by subst hB; simp) (by simp) (by rw [en_len, flL_len]; omega) (by simp) fun x hx => by
      obtain ⟨k, hk, rfl⟩ := mem_en hx
      exact ⟨_, rfl, by simp, fun _ => by simp, by simp⟩
  have hS : (rowI g 0 N).map D.int = (((List.range N).filter g).map fun j => D.int (j : Nat)) := by
    unfold rowI
    rw [List.map_map]
    simp only [Nat.zero_add]
    rfl
  rw [hS] at hs
  obtain ⟨y4, y5, y7, e⟩ := so_out (A := A) (B := B) (N := N) (f := f) (js := (List.range N).filter g) (List.range N) noF .no .no .no
  rw [← en_fl] at e
  have er : flL (sumF2 noF f ((List.range N).filter g) (List.range N)) N = flL (smF f g) N := fl_congr fun n hn => by
    rw [Bool.eq_iff_iff, smF_iff]
    show (List.range N).any _ = true ↔ _
    rw [List.any_eq_true]
    constructor
    · rintro ⟨k, hk, h⟩
      obtain ⟨h1, h2⟩ := Bool.and_eq_true_iff.mp h
      obtain ⟨j, hj, h3⟩ := List.any_eq_true.mp h2
      exact ⟨k, j, h1, (List.mem_filter.mp hj).2, (of_decide_eq_true h3).symm⟩
    · rintro ⟨a, b, h1, h2, h3⟩
      exact ⟨a, List.mem_range.mpr (by omega), by rw [h1, Bool.true_and]; exact List.any_eq_true.mpr ⟨b, List.mem_filter.mpr ⟨List.mem_range.mpr (by omega), h2⟩, decide_eq_true h3.symm⟩⟩
  rw [er] at e
  exact so_aux ha hr hs (en := flL f N) (by subst hA; rfl) e
theorem ad_aux {A B T F1 F2 F3 : D} {s1 s2 p1 p2 p m s N : Int} (a1 : oIx A (.int 1) = some (.int s1)) (a2 : oIx A (.int 2) = some (.int p1)) (b1 : oIx B (.int 1) = some (.int s2)) (b2 : oIx B (.int 2) = some (.int p2))
    (hc : c_common_multiple [.d (.int p1), .d (.int p2)] = some (.ok (.d (.int p)), [])) (hm : s1 + s2 = m) (hs : m + p = s) (hN : s + p = N) (hb : c_require_bound [.d (.int N)] = some (.ok (.d .non), [])) (h1 : c_flags_in [.d A, .d (.int N)] = some (.ok (.d F1), [])) (h2 : c_flags_in [.d B, .d (.int N)] = some (.ok (.d F2), []))
    (h3 : c_sums_of [.d F1, .d F2] = some (.ok (.d F3), [])) (ht : c_tally_of_flags [.d F3, .d (.int s)] = some (.ok (.d T), [])) : c_added_in [.d A, .d B] = some (.ok (.d T), []) := by
  unfold c_added_in g_added_in
  simp [a1, a2, b1, b2, hc, hm, hs, hN, hb, h1, h2, h3, ht, -oIx]
theorem added_in_v {f g : Nat → Bool} {t q t' q' : Nat} (c : Can f t q) (c' : Can g t' q') (h1 : q ≤ 4000) (h2 : q' ≤ 4000) (hb : t + t' + Nat.lcm q q' + Nat.lcm q q' ≤ 4000) : ∃ T Q, Can (smF f g) T Q ∧ T ≤ t + t' + Nat.lcm q q' ∧ Q ≤ Nat.lcm q q' ∧ c_added_in [.d (tal f t q), .d (tal g t' q')] = some (.ok (.d (tal (smF f g) T Q)), []) := by
  obtain ⟨T, Q, k1, k2, k3, k4⟩ := tally_v (c.ep.smL c'.ep) hb
  refine ⟨T, Q, k1, k2, k3, ?_⟩
  have hc := common_multiple_v (a := q) (b := q') c.ep.1 c'.ep.1 h1 h2
  exact ad_aux rfl rfl rfl rfl hc (Int.natCast_add _ _).symm (Int.natCast_add _ _).symm (Int.natCast_add _ _).symm (req_bound_v hb) (flags_tal c.ep (by omega)) (flags_tal c'.ep (by omega)) (sums_of_v f g hb) k4
theorem added_aux {A B T : D} (h1 : c_require_tally [.d A] = some (.ok (.d .non), [])) (h2 : c_require_tally [.d B] = some (.ok (.d .non), [])) (h3 : c_added_in [.d A, .d B] = some (.ok (.d T), [])) : c_added [.d A, .d B] = some (.ok (.d T), []) := by
  unfold c_added g_added
  simp [h1, h2, h3]
theorem added_v {f g : Nat → Bool} {t q t' q' : Nat} (c : Can f t q) (c' : Can g t' q') (h1 : t + q ≤ 4000) (h2 : t' + q' ≤ 4000) (hb : t + t' + Nat.lcm q q' + Nat.lcm q q' ≤ 4000) : ∃ T Q, Can (smF f g) T Q ∧ T ≤ t + t' + Nat.lcm q q' ∧ Q ≤ Nat.lcm q q' ∧ c_added [.d (tal f t q), .d (tal g t' q')] = some (.ok (.d (tal (smF f g) T Q)), []) := by
  obtain ⟨T, Q, k1, k2, k3, k4⟩ := added_in_v c c' (by omega) (by omega) hb
  exact ⟨T, Q, k1, k2, k3, added_aux (req_tally c h1) (req_tally c' h2) k4⟩
end K14
end
section
set_option Elab.async false
set_option linter.all false
set_option maxRecDepth 100000
set_option maxHeartbeats 1000000
namespace K14
open PySem PySem.Spec L2 DL SetN
open PyProof.Rows hiding St
theorem roll_a1 {a b c T x y : Int} (h : 0 < a) (hm : oMod (.int a) (.int T) = some (.int x)) (hd : oDiv (.int a) (.int T) = some (.int y)) : c__law_roll [.o [.int a, .int b, .int c], .d (.int T)] = some (.ok (.d (.int x)), [[.int y, .int b, .int c]]) := by
  have i0 : atI [D.int a, .int b, .int c] 0 = some (.int a) := rfl
  have p0 : (ixN 3 0) = some 0 := rfl
  unfold c__law_roll g__law_roll
  simp [i0, p0, h, hm, hd]
theorem roll_a2 {a b c T c1 x1 x2 o x3 x4 x5 x6 x7 x8 x9 x : Int} (h : ¬ 0 < a) (hc : c + 1 = c1) (h1 : oMul (.int 998244293) (.int c1) = some (.int x1)) (h2 : b + x1 = x2) (ho : oMod (.int x2) (.int 2305843009213693951) = some (.int o)) (h3 : oMul (.int o) (.int o) = some (.int x3)) (h4 : oMod (.int x3) (.int 2305843009213693921) = some (.int x4)) (h5 : oMul (.int x4) (.int o) = some (.int x5))
    (h6 : oMul (.int 9413) (.int c1) = some (.int x6)) (h7 : x5 + x6 = x7) (h8 : oMod (.int x7) (.int 2305843009213693669) = some (.int x8)) (h9 : oDiv (.int x8) (.int 8192) = some (.int x9)) (hx : oMod (.int x9) (.int T) = some (.int x)) : c__law_roll [.o [.int a, .int b, .int c], .d (.int T)] = some (.ok (.d (.int x)), [[.int a, .int b, .int c1]]) := by
  have i0 : atI [D.int a, .int b, .int c] 0 = some (.int a) := rfl
  have i2 : atI [D.int a, .int b, .int c] 2 = some (.int c) := rfl
  have j1 : atI [D.int a, .int b, .int c1] 1 = some (.int b) := rfl
  have j2 : atI [D.int a, .int b, .int c1] 2 = some (.int c1) := rfl
  have p2 : (ixN 3 2) = some 2 := rfl
  unfold c__law_roll g__law_roll
  simp [i0, i2, j1, j2, p2, h, hc, h1, h2, ho, h3, h4, h5, h6, h7, h8, h9, hx]
/-- a dice list, rolled k times at most -/
def Dice (k : Nat) (l : List D) : Prop := ∃ a b c : Int, l = [.int a, .int b, .int c] ∧ 0 ≤ b ∧ b < 2305843009213693952 ∧ 0 ≤ c ∧ c ≤ k
theorem lg {i : Int} (h : i.natAbs < 2 ^ 200) : i.natAbs.log2 < 400 := by
  by_cases e : i.natAbs = 0
  · rw [e]; decide
  · have := (Nat.log2_lt e (k := 200)).mpr h
    omega
theorem oMul_lg {i j : Int} (h1 : i.natAbs < 2 ^ 200) (h2 : j.natAbs < 2 ^ 200) : oMul (.int i) (.int j) = some (.int (i * j)) := by
  unfold oMul
  show (if i.natAbs.log2 + j.natAbs.log2 < 1000000 then some (D.int (i * j)) else none) = _
  rw [if_pos (by have := lg h1; have := lg h2; omega)]
theorem oDiv_lg {i j : Int} (h1 : 0 < j) (h2 : j.natAbs < 2 ^ 200) : oDiv (.int i) (.int j) = some (.int (i / j)) := by
  unfold oDiv
  show (if 0 < j ∧ j.natAbs.log2 < 9000 then some (D.int (i / j)) else none) = _
  rw [if_pos ⟨h1, by have := lg h2; omega⟩]
theorem roll_v {k : Nat} {l : List D} {T : Int} (h : Dice k l) (hk : k ≤ 100000) (hT : 0 < T) (hT2 : T.natAbs < 2 ^ 200) : ∃ (r : Int) (l' : List D), c__law_roll [.o l, .d (.int T)] = some (.ok (.d (.int r)), [l']) ∧ Dice (k + 1) l' ∧ 0 ≤ r ∧ r < T := by
  obtain ⟨a, b, c, rfl, b1, b2, c1, c2⟩ := h
  by_cases ha : 0 < a
  · exact ⟨a % T, _, roll_a1 ha (oMod_pos hT) (oDiv_lg hT hT2), ⟨a / T, b, c, rfl, b1, b2, c1, by omega⟩, Int.emod_nonneg _ (by omega), Int.emod_lt_of_pos _ hT⟩
  · refine ⟨_, _, roll_a2 (c1 := c + 1) ha rfl (oMul_lg (by omega) (by omega)) rfl (oMod_pos (by decide)) (oMul_lg ?_ ?_) (oMod_pos (by decide)) (oMul_lg ?_ ?_) (oMul_lg (by omega) (by omega)) rfl (oMod_pos (by decide)) (oDiv_lg (by decide) (by decide)) (oMod_pos hT), ⟨a, b, c + 1, rfl, b1, b2, by omega, by omega⟩, Int.emod_nonneg _ (by omega), Int.emod_lt_of_pos _ hT⟩
    all_goals
      generalize b + 998244293 * (c + 1) = y
      have e1 := Int.emod_nonneg y (show (2305843009213693951 : Int) ≠ 0 by decide)
      have e2 := Int.emod_lt_of_pos y (show (0 : Int) < 2305843009213693951 by decide)
      generalize y % 2305843009213693951 = o at e1 e2
      first
        | omega
        | (have e3 := Int.emod_nonneg (o * o) (show (2305843009213693921 : Int) ≠ 0 by decide)
           have e4 := Int.emod_lt_of_pos (o * o) (show (0 : Int) < 2305843009213693921 by decide)
           omega)
theorem pick_aux {l l' : List D} {xs : List D} {r : Int} {z : D} (h : c__law_roll [.o l, .d (.int (xs.length : Nat))] = some (.ok (.d (.int r)), [l'])) (hz : atI xs r = some z) : c__law_pick [.o l, .d (.lst xs)] = some (.ok (.d z), [l']) := by
  unfold c__law_pick g__law_pick
  simp [h, hz]
theorem pick_v {k : Nat} {l : List D} {xs : List D} (h : Dice k l) (hk : k ≤ 100000) (h1 : 1 ≤ xs.length) (h2 : xs.length ≤ 1000) : ∃ (z : D) (l' : List D), c__law_pick [.o l, .d (.lst xs)] = some (.ok (.d z), [l']) ∧ Dice (k + 1) l' ∧ z ∈ xs := by
  obtain ⟨r, l', e, hd, r1, r2⟩ := roll_v (T := (xs.length : Nat)) h hk (by omega) (by omega)
  obtain ⟨n, rfl⟩ : ∃ n : Nat, r = n := ⟨r.toNat, by omega⟩
  have hn : n < xs.length := by omega
  refine ⟨xs[n], l', pick_aux e ?_, hd, List.getElem_mem hn⟩
  unfold atI ixN
  rw [if_pos (by omega), if_pos (by omega)]
  show xs[((n : Int)).toNat]? = _
  rw [Int.toNat_natCast, List.getElem?_eq_getElem hn]
theorem dice_aux {ns : List Int} {spot x1 cell P1 P2 P3 ab g y1 y2 y3 y4 y5 y6 sg mx : Int} (h1 : oMul (.int 59) (.int spot) = some (.int x1)) (hc : if spot < (ns.length : Int) then atI ns spot = some cell else cell = x1 + 31) (hp1 : oPow (.int 10) (.int 60) = some (.int P1)) (hp2 : oPow (.int P1) (.int 10) = some (.int P2)) (hp3 : oPow (.int 10) (.int 18) = some (.int P3))
    (hab : oAbs [.int cell] = some (.int ab)) (hg : oMod (.int ab) (.int P2) = some (.int g)) (hy1 : oMod (.int g) (.int 2305843009213693669) = some (.int y1)) (hy2 : oMul (.int y1) (.int 1000393) = some (.int y2)) (hy3 : oMul (.int 8069) (.int spot) = some (.int y3)) (hsg : oInt [.bl (decide (cell < 0))] = some (.int sg)) (hy4 : oMul (.int 47) (.int sg) = some (.int y4)) (hy5 : y2 + y3 + y4 + 41 = y5)
    (hy6 : oMod (.int y5) (.int 2305843009213693669) = some (.int y6)) (hmx : oMax [.int 0, .int (g - P3)] = some (.int mx)) : c__law_dice [.d (.scr ns), .d (.int spot)] = some (.ok (.o [.int mx, .int y6, .int 0]), []) := by
  unfold c__law_dice g__law_dice
  have ig : oInt [.int g] = some (.int g) := rfl
  have ia : oInt [.int ab] = some (.int ab) := rfl
  have i5 : oInt [.int y5] = some (.int y5) := rfl
  by_cases c : spot < (ns.length : Int)
  · rw [if_pos c] at hc
    simp [h1, c, hc, hp1, hp2, hp3, hab, ia, hg, ig, hy1, hy2, hy3, hsg, hy4, hy5, i5, hy6, hmx, -oAbs, -oInt, -oMax]
  · rw [if_neg c] at hc
    subst hc
    simp [h1, c, hp1, hp2, hp3, hab, ia, hg, ig, hy1, hy2, hy3, hsg, hy4, hy5, i5, hy6, hmx, -oAbs, -oInt, -oMax]
theorem oPow_v {i j : Int} (h : 0 ≤ j ∧ (Builtin.Int.intBits i : Int) * j ≤ 2 ^ 27) : oPow (.int i) (.int j) = some (.int (i ^ j.toNat)) := by
  unfold oPow
  show (if 0 ≤ j ∧ (Builtin.Int.intBits i : Int) * j ≤ 2 ^ 27 then some (D.int (i ^ j.toNat)) else none) = _
  rw [if_pos h]
theorem pow60 : ∃ P1 : Int, oPow (.int 10) (.int 60) = some (.int P1) ∧ ∃ P2 : Int, oPow (.int P1) (.int 10) = some (.int P2) ∧ 0 < P2 :=
  ⟨_, oPow_v (by decide +kernel), _, oPow_v (by decide +kernel), by decide +kernel⟩
theorem pow18 : ∃ P3 : Int, oPow (.int 10) (.int 18) = some (.int P3) := ⟨_, oPow_v (by decide +kernel)⟩
theorem pow20 : oPow (.int 10) (.int 20) = some (.int 100000000000000000000) := oPow_v (by decide +kernel)
theorem dice_v (ns : List Int) {spot : Nat} (hs : spot ≤ 100) : ∃ l, c__law_dice [.d (.scr ns), .d (.int spot)] = some (.ok (.o l), []) ∧ Dice 0 l := by
  obtain ⟨P1, hp1, P2, hp2, pos⟩ := pow60
  obtain ⟨P3, hp3⟩ := pow18
  obtain ⟨cell, hc⟩ : ∃ cell : Int, if (spot : Int) < (ns.length : Int) then atI ns spot = some cell else cell = 59 * (spot : Int) + 31 := by
    by_cases c : (spot : Int) < (ns.length : Int)
    · have hl : spot < ns.length := by omega
      refine ⟨ns[spot], ?_⟩
      rw [if_pos c]
      unfold atI ixN
      rw [if_pos (by omega), if_pos c]
      show ns[((spot : Int)).toNat]? = _
      rw [Int.toNat_natCast, List.getElem?_eq_getElem hl]
    · exact ⟨59 * (spot : Int) + 31, by rw [if_neg c]⟩
  have sp : ((spot : Int)).natAbs < 2 ^ 200 := by omega
  have y1 : ∀ x : Int, (x % 2305843009213693669).natAbs < 2 ^ 200 := fun x => by
    have e1 := Int.emod_nonneg x (show (2305843009213693669 : Int) ≠ 0 by decide)
    have e2 := Int.emod_lt_of_pos x (show (0 : Int) < 2305843009213693669 by decide)
    omega
  have sg : ((if decide (cell < 0) then 1 else 0 : Int)).natAbs < 2 ^ 200 := by split <;> decide
  refine ⟨_, dice_aux (oMul_lg (by decide) sp) hc hp1 hp2 hp3 rfl (oMod_pos pos) (oMod_pos (by decide)) (oMul_lg (y1 _) (by decide)) (oMul_lg (by decide) sp) rfl (oMul_lg (by decide) sg) rfl (oMod_pos (by decide)) rfl, ?_⟩
  exact ⟨_, _, 0, rfl, Int.emod_nonneg _ (by decide), by
    have := Int.emod_lt_of_pos (if decide (cell < 0) then 1 else 0 : Int) (show (0 : Int) < 2305843009213693669 by decide)
    exact Int.lt_trans (Int.emod_lt_of_pos _ (by decide)) (by decide), Int.le_refl _, Int.le_refl _⟩
theorem lc_roll {c : M Bool} {e : M D} {S : List D → Sl → Rho} {vs : List Nat} {h : D → M Unit} (hw : ∀ l x, wipeR (S l x) vs = S l .no) (hh : ∀ l x, h x (S l .no) = some (.ok (), S l (.d x))) (he : ∀ l x, e (S l (.d x)) = some (.ok x, S l (.d x))) :
    ∀ (xs : List D) (k : Nat) (l : List D), Dice k l → k + xs.length ≤ 90000 → (∀ x ∈ xs, ∀ k l, Dice k l → k ≤ 90000 → ∃ b l', c (S l (.d x)) = some (.ok b, S l' (.d x)) ∧ Dice (k + 1) l') →
      ∃ ys l', lcL h c e vs xs (S l .no) = some (ys, S l' .no) ∧ Dice (k + xs.length) l' ∧ ys.Sublist xs
  | [], k, l, hd, _, _ => ⟨[], l, rfl, hd, List.Sublist.refl _⟩
  | x :: xs, k, l, hd, hk, hc => by
    rw [List.length_cons] at hk
    obtain ⟨b, l1, c1, d1⟩ := hc x List.mem_cons_self k l hd (by omega)
    obtain ⟨ys, l2, e2, d2, s2⟩ := lc_roll hw hh he xs (k + 1) l1 d1 (by omega) fun y hy => hc y (List.mem_cons_of_mem _ hy)
    have dk : Dice (k + (x :: xs).length) l2 := by
      have : k + (x :: xs).length = k + 1 + xs.length := by rw [List.length_cons]; omega
      rw [this]; exact d2
    unfold lcL
    cases b with
    | true => exact ⟨x :: ys, l2, by simp only [hh, c1, he, hw, e2], dk, List.Sublist.cons_cons _ s2⟩
    | false => exact ⟨ys, l2, by simp only [hh, c1, hw, e2], dk, List.Sublist.cons _ s2⟩
end K14
end
section
set_option Elab.async false
set_option linter.all false
set_option maxRecDepth 100000
set_option maxHeartbeats 1000000
namespace K14
open PySem PySem.Spec L2 DL SetN
open PyProof.Rows hiding St
theorem dLc_run {f : M (List D)} {h : D → M Unit} {c : M Bool} {e : M Hd} {vs : List Nat} {ρ ρ1 ρ2 : Rho} {xs ys : List D} (hf : f ρ = some (.ok xs, ρ1)) (hn : notOwn ρ1 vs = true) (hl : xs.length ≤ 16777216) (hL : lcL h c (bnd e cl) vs xs (wipeR ρ1 vs) = some (ys, ρ2)) : dLc f h c e vs ρ = some (.ok ys, rest ρ1 ρ2 vs) := by
  unfold dLc
  generalize bnd e cl = e0 at hL ⊢
  unfold bnd
  rw [hf]
  show (if notOwn ρ1 vs = true ∧ xs.length ≤ 16777216 then _ else _) = _
  rw [if_pos ⟨hn, hl⟩, hL]
theorem rq_body {S : List D → Sl → Rho} {T : Int} {k : Nat} {l : List D} {x : Sl} (hS : ∀ l x, ∃ r, S l x = .o (some 0) l :: r) (hset : ∀ l l' x, (S l x).set 0 (.o (some 0) l') = S l' x) (hd : Dice k l) (hk : k ≤ 90000) (hT : 0 < T) (hT2 : T.natAbs < 2 ^ 200) :
    ∃ b l', dB (dOp oEq (dCall [true, false] c__law_roll (dCons (dVar 0) (dCons (dK (.int T)) dNil))) (dK (.int 0))) (S l x) = some (.ok b, S l' x) ∧ Dice (k + 1) l' := by
  obtain ⟨r, l', e, d, _, _⟩ := roll_v hd (by omega) hT hT2
  obtain ⟨rs, hr⟩ := hS l x
  have h2 := hset l l' x
  refine ⟨decide (r = 0), l', ?_, d⟩
  rw [hr] at h2 ⊢
  rw [← h2]
  simp [e, qe_int]
theorem sub_rng {lo n : Nat} {ys : List D} (s : ys.Sublist (rngD lo n)) : ∃ ns : List Int, ys = ns.map D.int ∧ rowP lo ((lo : Int) + n - 1) ns ∧ ns.length ≤ n := by
  have er : rngD lo n = ((List.range n).map fun j => (lo : Int) + (j : Nat)).map D.int := by
    unfold rngD
    rw [List.map_map] <;> rfl
  rw [er] at s
  obtain ⟨ns, s2, rfl⟩ := List.sublist_map_iff.mp s
  have pw : ((List.range n).map fun j => (lo : Int) + (j : Nat)).Pairwise (· < ·) := List.pairwise_map.mpr (List.Pairwise.imp (R := (· < ·)) (fun {a b} h => by omega) List.pairwise_lt_range)
  refine ⟨ns, rfl, ⟨pw.sublist s2, fun x hx => ?_⟩, ?_⟩
  · obtain ⟨j, hj, rfl⟩ := List.mem_map.mp (s2.subset hx)
    have := List.mem_range.mp hj
    omega
  · have := s2.length_le
    rw [List.length_map, List.length_range] at this
    exact this
theorem drawn_lc {S : List D → Sl → Rho} {lo n k v : Nat} {T : Int} {l : List D} (it : M (List D)) (hS : ∀ l x, ∃ r, S l x = .o (some 0) l :: r) (hset : ∀ l l' x, (S l x).set 0 (.o (some 0) l') = S l' x) (hv : ∀ l x y, (S l x).set v y = S l y) (hg : ∀ l x, (S l x)[v]? = some x) (hit : it (S l .no) = some (.ok (rngD lo n), S l .no))
    (hd : Dice k l) (hk : k + n ≤ 90000) (hT : 0 < T) (hT2 : T.natAbs < 2 ^ 200) :
    ∃ (ns : List Int) (l' : List D), dLc it (tgN v) (dB (dOp oEq (dCall [true, false] c__law_roll (dCons (dVar 0) (dCons (dK (.int T)) dNil))) (dK (.int 0)))) (dVar v) [v] (S l .no) = some (.ok (ns.map D.int), S l' .no) ∧ Dice (k + n) l' ∧ rowP lo ((lo : Int) + n - 1) ns ∧ ns.length ≤ n := by
  have hw : ∀ l x, wipeR (S l x) [v] = S l .no := fun l x => hv l x .no
  obtain ⟨ys, l', e, d, s⟩ := lc_roll (c := dB (dOp oEq (dCall [true, false] c__law_roll (dCons (dVar 0) (dCons (dK (.int T)) dNil))) (dK (.int 0)))) (e := bnd (dVar v) cl) (S := S) (vs := [v]) (h := tgN v)
    hw (fun l x => by rw [tgN_ap, hv]) (fun l x => by simp [hg]) (rngD lo n) k l hd (by rw [rngD_len]; exact hk) fun x hx k l hd hk => rq_body hS hset hd hk hT hT2
  obtain ⟨ns, rfl, r1, r2⟩ := sub_rng s
  rw [rngD_len] at d
  have q := dLc_run (f := it) (h := tgN v) (c := dB (dOp oEq (dCall [true, false] c__law_roll (dCons (dVar 0) (dCons (dK (.int T)) dNil))) (dK (.int 0)))) (e := dVar v) (vs := [v]) hit (by simp [hg]) (by rw [rngD_len]; omega) (by rw [hw]; exact e)
  have hr : rest (S l .no) (S l' .no) [v] = S l' .no := by
    show (S l' .no).set v ((S l .no).getD v .no) = _
    have : (S l .no).getD v .no = .no := by rw [List.getD_eq_getElem?_getD, hg] <;> rfl
    rw [this, hv]
  rw [hr] at q
  exact ⟨ns, l', q, d, r1, r2⟩
/-! k14: drawn sets, multiples, flags -/
theorem set_aux {l0 l1 l2 l3 l4 ys zs : List D} {r p0 p m : Int} {T : D} (h1 : c__law_roll [.o l0, .d (.int 7)] = some (.ok (.d (.int r)), [l1])) (h2 : c__law_roll [.o l1, .d (.int m)] = some (.ok (.d (.int p0)), [l2])) (hp : 1 + p0 = p)
    (h3 : l__law_set_1 [.o (some 0) l2, .d (.int m), .d (.int r), .d (.int p), .no, .no, .no] = some (.ok ys, [.o (some 0) l3, .d (.int m), .d (.int r), .d (.int p), .no, .no, .no]))
    (h4 : l__law_set_0 [.o (some 0) l3, .d (.int m), .d (.int r), .d (.int p), .d (.tup ys), .no, .no] = some (.ok zs, [.o (some 0) l4, .d (.int m), .d (.int r), .d (.int p), .d (.tup ys), .no, .no]))
    (h6 : c__law_tl_of [.d (.tup ys), .d (.int r), .d (.int p), .d (.tup zs)] = some (.ok (.d T), [])) :
    c__law_set [.o l0, .d (.int m)] = some (.ok (.d T), [l4]) := by
  unfold c__law_set g__law_set
  simp [h1, h2, hp, h3, h4, h6, setX]
/-- d is the least tally of f -/
def Ds (f : Nat → Bool) (d : D) : Prop := ∃ t q, d = tal f t q ∧ Can f t q ∧ t ≤ 6 ∧ q ≤ 7
theorem Dice.up {k m : Nat} {l : List D} (h : Dice k l) (hm : k ≤ m) : Dice m l := by
  obtain ⟨a, b, c, e, f1, f2, f3, f4⟩ := h
  exact ⟨a, b, c, e, f1, f2, f3, by omega⟩
theorem set_v {k m : Nat} {l : List D} (hd : Dice k l) (hk : k ≤ 50000) (h1 : 1 ≤ m) (h7 : m ≤ 7) : ∃ (f : Nat → Bool) (d : D) (l' : List D), c__law_set [.o l, .d (.int m)] = some (.ok (.d d), [l']) ∧ Ds f d ∧ Dice (k + 20) l' := by
  obtain ⟨r1, l1, e1, d1, a1, a2⟩ := roll_v (T := 7) hd (by omega) (by decide) (by decide)
  obtain ⟨s, rfl⟩ : ∃ n : Nat, r1 = n := ⟨r1.toNat, by omega⟩
  obtain ⟨r2, l2, e2, d2, b1, b2⟩ := roll_v (T := (m : Int)) d1 (by omega) (by omega) (by omega)
  obtain ⟨p, hp⟩ : ∃ n : Nat, 1 + r2 = n := ⟨(1 + r2).toNat, by omega⟩
  obtain ⟨b, l3, e3, d3, rb, lb⟩ := drawn_lc (S := fun l x => [.o (some 0) l, .d (.int m), .d (.int s), .d (.int p), .no, .no, x]) (lo := 0) (n := s) (v := 6) (T := 2) (dRng1 (dVar 2)) (fun l x => ⟨_, rfl⟩) (fun l l' x => rfl) (fun l x y => rfl) (fun l x => rfl) (by simp [rng1_v (N := s) (by omega)]) d2 (by omega) (by decide) (by decide)
  obtain ⟨a, l4, e4, d4, ra, la⟩ := drawn_lc (S := fun l x => [.o (some 0) l, .d (.int m), .d (.int s), .d (.int p), .d (.tup (b.map D.int)), .no, x]) (lo := s) (n := p) (v := 6) (T := 3) (dRng2 (dVar 2) (dOp oAdd (dVar 2) (dVar 3))) (fun l x => ⟨_, rfl⟩) (fun l l' x => rfl) (fun l x y => rfl) (fun l x => rfl) (by simp [rng2_v (s := s) (n := p) (by omega)]) d3 (by omega) (by decide) (by decide)
  have hp1 : 1 ≤ p := by omega
  obtain ⟨t, q, c, e6⟩ := tl_of_v (b := b) (a := a) (s := s) (p := p) hp1 (by omega)
  have ep := fV_ep (b := b) (a := a) (s := s) hp1
  refine ⟨_, _, _, set_aux e1 e2 hp e3 e4 e6, ⟨t, q, rfl, c, ?_, ?_⟩, d4.up (by omega)⟩
  · have := c.ls _ _ ep; omega
  · have := c.lp _ _ ep; omega
theorem mult_wh {a b : Nat} (ha : a ≤ 7) (ha1 : 1 ≤ a) (hb1 : 1 ≤ b) (hb : b ≤ 7) : ∀ (n k fuel : Nat), k + n = b → 1 ≤ k → n < fuel → ∃ M : Nat, wh t__law_multiple_0 b__law_multiple_1 fuel [.d (.int a), .d (.int b), .d (.int ((a * k : Nat) : Int))] = some (.nx, [.d (.int a), .d (.int b), .d (.int M)]) ∧ a ∣ M ∧ b ∣ M ∧ 1 ≤ M ∧ M ≤ a * b
  | n, k, 0, _, _, hf => by omega
  | n, k, fuel + 1, hk, h1, hf => by
    have hM : oMod (.int ((a * k : Nat) : Int)) (.int b) = some (.int ((a * k % b : Nat) : Int)) := by
      have m := oMod_pos (i := ((a * k : Nat) : Int)) (j := b) (by omega)
      rw [← Int.natCast_emod] at m
      exact m
    unfold wh
    by_cases c : a * k % b = 0
    · refine ⟨a * k, ?_, Nat.dvd_mul_right _ _, Nat.dvd_of_mod_eq_zero c, Nat.mul_pos ha1 h1, Nat.mul_le_mul_left _ (by omega)⟩
      have e : t__law_multiple_0 [.d (.int a), .d (.int b), .d (.int ((a * k : Nat) : Int))] = some (.ok false, [.d (.int a), .d (.int b), .d (.int ((a * k : Nat) : Int))]) := by
        rw [c] at hM
        generalize ((a * k : Nat) : Int) = z at hM ⊢
        unfold t__law_multiple_0
        simp [hM, qn_int]
      rw [e]
    · have e : t__law_multiple_0 [.d (.int a), .d (.int b), .d (.int ((a * k : Nat) : Int))] = some (.ok true, [.d (.int a), .d (.int b), .d (.int ((a * k : Nat) : Int))]) := by
        have c' : ¬ (((a * k % b : Nat) : Int) = 0) := by omega
        generalize ((a * k % b : Nat) : Int) = y at hM c'
        generalize ((a * k : Nat) : Int) = z at hM ⊢
        unfold t__law_multiple_0
        simp [hM, qn_int, c']
      have e2 : b__law_multiple_1 [.d (.int a), .d (.int b), .d (.int ((a * k : Nat) : Int))] = some (.nx, [.d (.int a), .d (.int b), .d (.int ((a * (k + 1) : Nat) : Int))]) := by
        have s : ((a * k : Nat) : Int) + a = ((a * (k + 1) : Nat) : Int) := by rw [Nat.mul_succ]; omega
        generalize ((a * (k + 1) : Nat) : Int) = y at s ⊢
        generalize ((a * k : Nat) : Int) = z at s ⊢
        unfold b__law_multiple_1
        simp [s]
      match n, hk with
      | 0, hk =>
        obtain rfl : k = b := by omega
        exact absurd (Nat.mul_mod_left a k) c
      | n + 1, hk =>
        obtain ⟨M, r, g1, g2, g3, g4⟩ := mult_wh ha ha1 hb1 hb n (k + 1) fuel (by omega) (by omega) (by omega)
        refine ⟨M, ?_, g1, g2, g3, g4⟩
        rw [e]
        show (match b__law_multiple_1 [.d (.int a), .d (.int b), .d (.int ((a * k : Nat) : Int))] with
          | some (.nx, ρ2) => wh t__law_multiple_0 b__law_multiple_1 fuel ρ2
          | some (.ct, ρ2) => wh t__law_multiple_0 b__law_multiple_1 fuel ρ2
          | some (.bk, ρ2) => some (.nx, ρ2)
          | r => r) = _
        rw [e2]
        exact r
theorem mult_aux {a b M : Int} (w : wh t__law_multiple_0 b__law_multiple_1 100000 [.d (.int a), .d (.int b), .d (.int a)] = some (.nx, [.d (.int a), .d (.int b), .d (.int M)])) : c__law_multiple [.d (.int a), .d (.int b)] = some (.ok (.d (.int M)), []) := by
  unfold c__law_multiple g__law_multiple
  simp [w]
theorem mult_v {a b : Nat} (ha : a ≤ 7) (ha1 : 1 ≤ a) (hb1 : 1 ≤ b) (hb : b ≤ 7) : ∃ M : Nat, c__law_multiple [.d (.int a), .d (.int b)] = some (.ok (.d (.int M)), []) ∧ a ∣ M ∧ b ∣ M ∧ 1 ≤ M ∧ M ≤ 49 := by
  obtain ⟨M, w, g1, g2, g3, g4⟩ := mult_wh ha ha1 hb1 hb (b - 1) 1 100000 (by omega) (Nat.le_refl _) (by omega)
  rw [Nat.mul_one] at w
  exact ⟨M, mult_aux w, g1, g2, g3, Nat.le_trans g4 (Nat.mul_le_mul ha hb)⟩
theorem law_flags_v {f : Nat → Bool} {t q N : Nat} (c : EP f t q) (hN : N ≤ 10000) : c__law_flags [.d (tal f t q), .d (.int N)] = some (.ok (.d (.lst (flL f N))), []) := by
  have hp' : (0 : Int) < (q : Int) := by have := c.1; omega
  have h1 : l__law_flags_0 [.d (tal f t q), .d (.int N), .no] = some (.ok (flL f N), [.d (tal f t q), .d (.int N), .no]) := by
    have hv : ∀ n : Nat, c__law_tl_has [.d (tal f t q), .d (.int n)] = some (.ok (.d (.bl (f n))), []) := fun n => by
      have h := tl_has_v (b := rowI f 0 t) (a := rowI f t q) (s := t) (p := q) (n := (n : Int)) hp'
      rw [hasV_tal c n] at h
      exact h
    generalize tal f t q = T at hv ⊢
    have q2 : l__law_flags_0 _ = _ := dLcE (ρ := [.d T, .d (.int N), .no]) (ρ1 := [.d T, .d (.int N), .no]) (xs := rngD 0 N) (fun d => match d with | .int n => .bl (f n.toNat) | _ => .non) (by simp [rng1_v (N := N) (by omega)]) (by simp) (by rw [rngD_len]; omega) (by simp) (fun x hx => by
        obtain ⟨k, hk, rfl⟩ := mem_rngD hx
        have hk' := hv k
        exact ⟨_, rfl, by simp [hk'], by simp⟩)
    simpa [rngD, flL, Function.comp_def] using q2
  generalize tal f t q = T at h1 ⊢
  unfold c__law_flags g__law_flags
  simp [h1]
end K14
end
section
set_option Elab.async false
set_option linter.all false
set_option maxRecDepth 100000
set_option maxHeartbeats 1000000
namespace K14
open PySem PySem.Spec L2 DL SetN
open PyProof.Rows hiding St
abbrev Sr (l : List D) (A B Mu s z : D) (x6 x7 x8 x9 x10 x11 x12 x13 : Sl) : Rho := [.o (some 0) l, .d A, .d B, .d Mu, .d s, .d z, x6, x7, x8, x9, x10, x11, x12, x13, .no, .no]
theorem rowN (f : Nat → Bool) (N : Nat) : (rowI f 0 N).map D.int = (((List.range N).filter f).map fun j => D.int (j : Nat)) := by
  unfold rowI
  rw [List.map_map]
  simp only [Nat.zero_add]
  rfl
section
variable {l : List D} {A B Mu s : D} {N : Nat} {f g : Nat → Bool}
theorem l9_v {z : D} (hN : N ≤ 10000) : l__law_right_9 (Sr l A B Mu s z (.d (.lst (flL f N))) (.d (.lst (flL g N))) .no .no .no .no .no .no) = some (.ok (flL (orF f g) N), Sr l A B Mu s z (.d (.lst (flL f N))) (.d (.lst (flL g N))) .no .no .no .no .no .no) := by
  have q : l__law_right_9 _ = _ := dLcE (ρ := Sr l A B Mu s z (.d (.lst (flL f N))) (.d (.lst (flL g N))) .no .no .no .no .no .no) (ρ1 := Sr l A B Mu s z (.d (.lst (flL f N))) (.d (.lst (flL g N))) .no .no .no .no .no .no) (xs := zpD (flL f N) (flL g N)) (fun d => match d with | .tup [.bl a, .bl b] => .bl (a || b) | _ => .non) (by simp) (by simp) (by rw [zp_fl, List.length_map, List.length_range]; omega) (by simp) (fun x hx => by
    obtain ⟨i, hi, rfl⟩ := mem_zp hx
    exact ⟨_, rfl, by cases f i <;> simp, by simp⟩)
  have e : (zpD (flL f N) (flL g N)).map (fun d => match d with | .tup [.bl a, .bl b] => D.bl (a || b) | _ => .non) = flL (orF f g) N := by rw [zp_fl, List.map_map, fl_map] <;> rfl
  rw [q, e]
theorem l8_v {z : D} (hN : N ≤ 10000) : l__law_right_8 (Sr l A B Mu s z (.d (.lst (flL f N))) (.d (.lst (flL g N))) .no .no .no .no .no .no) = some (.ok (flL (anF f g) N), Sr l A B Mu s z (.d (.lst (flL f N))) (.d (.lst (flL g N))) .no .no .no .no .no .no) := by
  have q : l__law_right_8 _ = _ := dLcE (ρ := Sr l A B Mu s z (.d (.lst (flL f N))) (.d (.lst (flL g N))) .no .no .no .no .no .no) (ρ1 := Sr l A B Mu s z (.d (.lst (flL f N))) (.d (.lst (flL g N))) .no .no .no .no .no .no) (xs := zpD (flL f N) (flL g N)) (fun d => match d with | .tup [.bl a, .bl b] => .bl (a && b) | _ => .non) (by simp) (by simp) (by rw [zp_fl, List.length_map, List.length_range]; omega) (by simp) (fun x hx => by
    obtain ⟨i, hi, rfl⟩ := mem_zp hx
    exact ⟨_, rfl, by cases f i <;> simp, by simp⟩)
  have e : (zpD (flL f N) (flL g N)).map (fun d => match d with | .tup [.bl a, .bl b] => D.bl (a && b) | _ => .non) = flL (anF f g) N := by rw [zp_fl, List.map_map, fl_map] <;> rfl
  rw [q, e]
theorem l3_v {x7 x8 x9 : Sl} (hN : N ≤ 10000) : l__law_right_3 (Sr l A B Mu s (.int N) (.d (.lst (flL f N))) x7 x8 x9 .no .no .no .no) = some (.ok (((List.range N).filter f).map fun j => D.int (j : Nat)), Sr l A B Mu s (.int N) (.d (.lst (flL f N))) x7 x8 x9 .no .no .no .no) := by
  rw [← rowN, ← row_of (f := f) (lo := 0) (n := N) (fun d => match d with | .int i => (match atI (flL f N) i with | some (.bl b) => b | _ => false) | _ => false) fun k hk => by
    have := flL_at (f := f) (n := N) (i := k) hk
    simp [this]]
  exact dLcG _ _ (by simp [rng1_v (N := N) (by omega)]) (by simp) (by rw [rngD_len]; omega) (by simp) fun x hx => by
    obtain ⟨k, hk, rfl⟩ := mem_rngD hx
    have := flL_at (f := f) (n := N) (i := k) (by omega)
    exact ⟨_, rfl, by simp [this], fun _ => by simp, by simp⟩
def Em (x : Sl) : Prop := x = .no ∨ ∃ d, x = .d d
theorem l4_v {x6 x8 x9 x11 : Sl} {a : Nat} (h11 : Em x11) (hN : N ≤ 10000) (ha : a ≤ N) : l__law_right_4 (Sr l A B Mu s (.int N) x6 (.d (.lst (flL g N))) x8 x9 (.d (.int a)) x11 .no .no) = some (.ok (((List.range (N - a)).filter g).map fun j => D.int (j : Nat)), Sr l A B Mu s (.int N) x6 (.d (.lst (flL g N))) x8 x9 (.d (.int a)) x11 .no .no) := by
  have hs : (N : Int) - a = ((N - a : Nat) : Int) := by omega
  rw [← rowN, ← row_of (f := g) (lo := 0) (n := N - a) (fun d => match d with | .int i => (match atI (flL g N) i with | some (.bl b) => b | _ => false) | _ => false) fun k hk => by
    have := flL_at (f := g) (n := N) (i := k) (by omega)
    simp [this]]
  rcases h11 with rfl | ⟨y, rfl⟩ <;> exact dLcG _ _ (by simp [hs, oSub, rng1_v (N := N - a) (by omega)]) (by simp) (by rw [rngD_len]; omega) (by simp) fun x hx => by
    obtain ⟨k, hk, rfl⟩ := mem_rngD hx
    have := flL_at (f := g) (n := N) (i := k) (by omega)
    exact ⟨_, rfl, by simp [this], fun _ => by simp, by simp⟩
theorem b5_v {z : D} {x6 x7 x8 : Sl} {F : Nat → Bool} {a j : Nat} (h : a + j < N) : b__law_right_5 (Sr l A B Mu s z x6 x7 x8 (.o none (flL F N)) (.d (.int a)) (.d (.int j)) .no .no) = some (.nx, Sr l A B Mu s z x6 x7 x8 (.o none (flL (setF F (a + j)) N)) (.d (.int a)) (.d (.int j)) .no .no) := by
  have hz : (a : Int) + j = ((a + j : Nat) : Int) := (Int.natCast_add _ _).symm
  have hp : putD ((a + j : Nat) : Int) (.bl true) (flL F N) = some (flL (setF F (a + j)) N) := by
    unfold putD ixN
    rw [flL_len, if_pos (by omega), if_pos (by omega), Int.toNat_natCast]
    show some ((flL F N).set (a + j) (.bl true)) = _
    rw [set_fl]
  unfold b__law_right_5
  generalize ((a + j : Nat) : Int) = y at hz hp
  simp [hz, hp, -putD]
theorem fo_cons {h : D → M Unit} {b : MS} {x : D} {xs : List D} {ρ ρ1 ρ2 : Rho} (h1 : h x ρ = some (.ok (), ρ1)) (h2 : b ρ1 = some (.nx, ρ2)) : fo h b (x :: xs) ρ = fo h b xs ρ2 := by
  conv => lhs; unfold fo
  rw [h1]
  dsimp only
  rw [h2]
theorem fo5_v {z : D} {x6 x7 x8 : Sl} {a : Nat} : ∀ (js : List Nat) (F : Nat → Bool) (x11 : Sl), Em x11 → (∀ j ∈ js, a + j < N) → ∃ y11, Em y11 ∧ fo (tgN 11) b__law_right_5 (js.map fun j => .int (j : Nat)) (Sr l A B Mu s z x6 x7 x8 (.o none (flL F N)) (.d (.int a)) x11 .no .no) = some (.nx, Sr l A B Mu s z x6 x7 x8 (.o none (flL (addF F a js) N)) (.d (.int a)) y11 .no .no)
  | [], F, x11, h0, _ => ⟨x11, h0, by
    have e : addF F a [] = F := funext fun n => Bool.or_false _
    rw [e] <;> rfl⟩
  | j :: js, F, x11, _, h => by
    obtain ⟨y, h0, e⟩ := fo5_v (z := z) (x6 := x6) (x7 := x7) (x8 := x8) (a := a) js (setF F (a + j)) (.d (.int j)) (.inr ⟨_, rfl⟩) fun i hi => h i (List.mem_cons_of_mem _ hi)
    have ea : addF (setF F (a + j)) a js = addF F a (j :: js) := funext fun n => by
      unfold addF setF
      rw [List.any_cons, Bool.or_assoc]
    rw [ea] at e
    exact ⟨y, h0, (fo_cons rfl (b5_v (h j List.mem_cons_self))).trans e⟩
theorem b6_aux {z : D} {x6 x7 x8 x11 y11 : Sl} {a : Int} {F G js : List D} (h1 : l__law_right_4 (Sr l A B Mu s z x6 x7 x8 (.o none F) (.d (.int a)) x11 .no .no) = some (.ok js, Sr l A B Mu s z x6 x7 x8 (.o none F) (.d (.int a)) x11 .no .no)) (h2 : fo (tgN 11) b__law_right_5 js (Sr l A B Mu s z x6 x7 x8 (.o none F) (.d (.int a)) x11 .no .no) = some (.nx, Sr l A B Mu s z x6 x7 x8 (.o none G) (.d (.int a)) y11 .no .no)) :
    b__law_right_6 (Sr l A B Mu s z x6 x7 x8 (.o none F) (.d (.int a)) x11 .no .no) = some (.nx, Sr l A B Mu s z x6 x7 x8 (.o none G) (.d (.int a)) y11 .no .no) := by
  unfold b__law_right_6
  simp [h1, h2]
end
end K14
end
section
set_option Elab.async false
set_option linter.all false
set_option maxRecDepth 100000
set_option maxHeartbeats 1000000
namespace K14
open PySem PySem.Spec L2 DL SetN
open PyProof.Rows hiding St
section
variable {l : List D} {A B Mu s : D} {N : Nat} {f g : Nat → Bool}
theorem b6_v {x6 x8 x11 : Sl} {F : Nat → Bool} {a : Nat} (hN : N ≤ 10000) (ha : a < N) (h11 : Em x11) : ∃ y11, Em y11 ∧ b__law_right_6 (Sr l A B Mu s (.int N) x6 (.d (.lst (flL g N))) x8 (.o none (flL F N)) (.d (.int a)) x11 .no .no) = some (.nx, Sr l A B Mu s (.int N) x6 (.d (.lst (flL g N))) x8 (.o none (flL (addF F a ((List.range (N - a)).filter g)) N)) (.d (.int a)) y11 .no .no) := by
  obtain ⟨y, hy, e⟩ := fo5_v (l := l) (A := A) (B := B) (Mu := Mu) (s := s) (N := N) (z := .int N) (x6 := x6) (x7 := .d (.lst (flL g N))) (x8 := x8) (a := a) ((List.range (N - a)).filter g) F x11 h11 fun j hj => by
    have := List.mem_range.mp (List.mem_filter.mp hj).1
    omega
  exact ⟨y, hy, b6_aux (l4_v h11 hN (by omega)) e⟩
def sum2 (N : Nat) (g F : Nat → Bool) (ks : List Nat) : Nat → Bool := fun n => F n || ks.any fun k => ((List.range (N - k)).filter g).any fun j => decide (n = k + j)
theorem fo6_v {x6 x8 : Sl} (hN : N ≤ 10000) : ∀ (ks : List Nat) (F : Nat → Bool) (x10 x11 : Sl), Em x11 → (∀ k ∈ ks, k < N) → ∃ y10 y11, fo (tgN 10) b__law_right_6 (ks.map fun j => .int (j : Nat)) (Sr l A B Mu s (.int N) x6 (.d (.lst (flL g N))) x8 (.o none (flL F N)) x10 x11 .no .no) = some (.nx, Sr l A B Mu s (.int N) x6 (.d (.lst (flL g N))) x8 (.o none (flL (sum2 N g F ks) N)) y10 y11 .no .no)
  | [], F, x10, x11, _, _ => ⟨x10, x11, by
    have e : sum2 N g F [] = F := funext fun n => Bool.or_false _
    rw [e] <;> rfl⟩
  | k :: ks, F, x10, x11, h11, h => by
    obtain ⟨y, hy, e1⟩ := b6_v (l := l) (A := A) (B := B) (Mu := Mu) (s := s) (g := g) (x6 := x6) (x8 := x8) (F := F) hN (h k List.mem_cons_self) h11
    obtain ⟨z10, z11, e2⟩ := fo6_v (x6 := x6) (x8 := x8) hN ks (addF F k ((List.range (N - k)).filter g)) (.d (.int k)) y hy fun i hi => h i (List.mem_cons_of_mem _ hi)
    have ea : sum2 N g (addF F k ((List.range (N - k)).filter g)) ks = sum2 N g F (k :: ks) := funext fun n => by
      unfold sum2 addF
      rw [List.any_cons, Bool.or_assoc]
    rw [ea] at e2
    exact ⟨z10, z11, (fo_cons rfl e1).trans e2⟩
theorem sum2_v : flL (sum2 N g noF ((List.range N).filter f)) N = flL (smF f g) N := fl_congr fun n hn => by
  rw [Bool.eq_iff_iff, smF_iff]
  show ((List.range N).filter f).any _ = true ↔ _
  rw [List.any_eq_true]
  constructor
  · rintro ⟨k, hk, h⟩
    obtain ⟨j, hj, h3⟩ := List.any_eq_true.mp h
    exact ⟨k, j, (List.mem_filter.mp hk).2, (List.mem_filter.mp hj).2, (of_decide_eq_true h3).symm⟩
  · rintro ⟨a, b, h1, h2, h3⟩
    exact ⟨a, List.mem_filter.mpr ⟨List.mem_range.mpr (by omega), h1⟩, List.any_eq_true.mpr ⟨b, List.mem_filter.mpr ⟨List.mem_range.mpr (by omega), h2⟩, decide_eq_true h3.symm⟩⟩
theorem rep_v (hN : N ≤ 10000) : oRep (.lst [.bl false]) (.int N) = some (flL noF N) := by
  have er : (List.replicate N [D.bl false]).flatten = flL noF N := by
    rw [fl_map]
    show _ = (List.range N).map fun _ => D.bl false
    rw [List.map_const', List.length_range]
    simp
  rw [← er]
  show (if SmI (N : Int) ∧ [D.bl false].length * ((N : Int)).toNat ≤ 16777216 then some (List.replicate ((N : Int)).toNat [D.bl false]).flatten else none) = _
  rw [Int.toNat_natCast, if_pos ⟨SmI.of (by omega), by simp; omega⟩]
end
/-! least tallies as data -/
def IsT (F : Nat → Bool) (d : D) : Prop := ∃ T Q, d = tal F T Q ∧ Can F T Q
theorem IsT.eq {F : Nat → Bool} {d e : D} (h : IsT F d) (h' : IsT F e) : d = e := by
  obtain ⟨T, Q, rfl, c⟩ := h
  obtain ⟨T', Q', rfl, c'⟩ := h'
  obtain ⟨rfl, rfl⟩ := c.uniq c'
  rfl
theorem IsT.oe {F : Nat → Bool} {d : D} (h : IsT F d) : oEq d d = some (.bl true) := by
  obtain ⟨T, Q, rfl, c⟩ := h
  rw [qe_tD, decide_eq_true ⟨rfl, rfl, rfl, rfl⟩]
theorem IsT.ne {F : Nat → Bool} {d : D} (h : IsT F d) : oNe d d = some (.bl false) := by
  obtain ⟨T, Q, rfl, c⟩ := h
  rw [qn_tD, decide_eq_true ⟨rfl, rfl, rfl, rfl⟩] <;> rfl
theorem least_IsT {F : Nat → Bool} {s p : Nat} (h : EP F s p) (hb : s + p ≤ 4000) : ∃ d, IsT F d ∧ c__law_tl_least [.d (.lst (flL F (s + p))), .d (.int s), .d (.int p)] = some (.ok (.d d), []) := by
  obtain ⟨t, q, c, e⟩ := tl_least_v h hb
  exact ⟨_, ⟨t, q, rfl, c⟩, e⟩
theorem lcm49 {q q' : Nat} (h1 : 1 ≤ q) (h2 : q ≤ 7) (h3 : 1 ≤ q') (h4 : q' ≤ 7) : Nat.lcm q q' ≤ 49 :=
  Nat.le_trans (Nat.le_of_dvd (Nat.mul_pos h1 h3) (Nat.lcm_dvd (Nat.dvd_mul_right _ _) (Nat.dvd_mul_left _ _))) (Nat.mul_le_mul h2 h4)
section
variable {f g : Nat → Bool} {d e : D}
theorem ds_no : Ds noF k_EMPTY := ⟨0, 1, rfl, can_no, by decide, by decide⟩
theorem ds_one : Ds (fun n => decide (n = 0)) (.tup [.tup [.int 0], .int 1, .int 1, .tup []]) := ⟨1, 1, by kernel_rfl, can_one, by decide, by decide⟩
theorem Ds.is (h : Ds f d) : IsT f d := by obtain ⟨t, q, r, c, _⟩ := h; exact ⟨t, q, r, c⟩
theorem Ds.either (h : Ds f d) (h' : Ds g e) : ∃ z, IsT (orF f g) z ∧ c_either [.d d, .d e] = some (.ok (.d z), []) := by
  obtain ⟨t, q, rfl, c, h1, h2⟩ := h
  obtain ⟨t', q', rfl, c', h1', h2'⟩ := h'
  have l := lcm49 c.ep.1 h2 c'.ep.1 h2'
  obtain ⟨T, Q, k1, _, _, k4⟩ := either_v c c' (by omega) (by omega) (by omega)
  exact ⟨_, ⟨T, Q, rfl, k1⟩, k4⟩
theorem Ds.both (h : Ds f d) (h' : Ds g e) : ∃ z, IsT (anF f g) z ∧ c_both [.d d, .d e] = some (.ok (.d z), []) := by
  obtain ⟨t, q, rfl, c, h1, h2⟩ := h
  obtain ⟨t', q', rfl, c', h1', h2'⟩ := h'
  have l := lcm49 c.ep.1 h2 c'.ep.1 h2'
  obtain ⟨T, Q, k1, _, _, k4⟩ := both_v c c' (by omega) (by omega) (by omega)
  exact ⟨_, ⟨T, Q, rfl, k1⟩, k4⟩
theorem Ds.added (h : Ds f d) (h' : Ds g e) : ∃ z, IsT (smF f g) z ∧ c_added [.d d, .d e] = some (.ok (.d z), []) := by
  obtain ⟨t, q, rfl, c, h1, h2⟩ := h
  obtain ⟨t', q', rfl, c', h1', h2'⟩ := h'
  have l := lcm49 c.ep.1 h2 c'.ep.1 h2'
  obtain ⟨T, Q, k1, _, _, k4⟩ := added_v c c' (by omega) (by omega) (by omega)
  exact ⟨_, ⟨T, Q, rfl, k1⟩, k4⟩
theorem Ds.moved (h : Ds f d) {n : Nat} (hn : n ≤ 100) : ∃ z, IsT (shF f n) z ∧ c_moved [.d d, .d (.int n)] = some (.ok (.d z), []) := by
  obtain ⟨t, q, rfl, c, h1, h2⟩ := h
  obtain ⟨T, Q, k1, _, _, k4⟩ := moved_v (n := n) c (by omega) (by omega)
  exact ⟨_, ⟨T, Q, rfl, k1⟩, k4⟩
theorem Ds.added_no (h : Ds f d) : c_added [.d d, .d k_EMPTY] = some (.ok (.d k_EMPTY), []) := by
  obtain ⟨z, i, e⟩ := h.added ds_no
  rw [sm_no] at i
  rw [i.eq ds_no.is] at e
  exact e
theorem Ds.added_one (h : Ds f d) : c_added [.d d, .d (.tup [.tup [.int 0], .int 1, .int 1, .tup []])] = some (.ok (.d d), []) := by
  obtain ⟨z, i, e⟩ := h.added ds_one
  rw [sm_one] at i
  rw [i.eq h.is] at e
  exact e
theorem Ds.either_no (h : Ds f d) : c_either [.d d, .d k_EMPTY] = some (.ok (.d d), []) := by
  obtain ⟨z, i, e⟩ := h.either ds_no
  rw [or_no'] at i
  rw [i.eq h.is] at e
  exact e
theorem Ds.moved_0 (h : Ds f d) : c_moved [.d d, .d (.int 0)] = some (.ok (.d d), []) := by
  obtain ⟨z, i, e⟩ := h.moved (n := 0) (by decide)
  rw [sh_0] at i
  rw [i.eq h.is] at e
  exact e
end
/-! the chunks -/
section
variable {l l1 l2 : List D} {A B T1 T2 T3 : D} {L R O N' : List D} {M s z tA qA tB qB : Int}
theorem runG (h1 : c__law_set [.o l, .d (.int 7)] = some (.ok (.d A), [l1])) (h2 : c__law_set [.o l1, .d (.int 6)] = some (.ok (.d B), [l2])) (a1 : oIx A (.int 1) = some (.int tA)) (a2 : oIx A (.int 2) = some (.int qA)) (b1 : oIx B (.int 1) = some (.int tB)) (b2 : oIx B (.int 2) = some (.int qB))
    (hm : c__law_multiple [.d (.int qA), .d (.int qB)] = some (.ok (.d (.int M)), [])) (hs : tA + tB + M = s) (hz : s + M = z) : g__law_right [.o (some 0) l, .no, .no, .no, .no, .no, .no, .no, .no, .no, .no, .no, .no, .no, .no, .no] = p__law_right_10 (Sr l2 A B (.int M) (.int s) (.int z) .no .no .no .no .no .no .no .no) := by
  unfold g__law_right
  generalize p__law_right_10 = p
  simp [h1, h2, a1, a2, b1, b2, hm, hs, hz, setX, -oIx]
theorem run10 {Z : List D} (e1 : c__law_flags [.d A, .d (.int z)] = some (.ok (.d (.lst L)), [])) (e2 : c__law_flags [.d B, .d (.int z)] = some (.ok (.d (.lst R)), []))
    (eo : l__law_right_9 (Sr l A B (.int M) (.int s) (.int z) (.d (.lst L)) (.d (.lst R)) .no .no .no .no .no .no) = some (.ok O, Sr l A B (.int M) (.int s) (.int z) (.d (.lst L)) (.d (.lst R)) .no .no .no .no .no .no))
    (ea : l__law_right_8 (Sr l A B (.int M) (.int s) (.int z) (.d (.lst L)) (.d (.lst R)) .no .no .no .no .no .no) = some (.ok N', Sr l A B (.int M) (.int s) (.int z) (.d (.lst L)) (.d (.lst R)) .no .no .no .no .no .no))
    (c1 : c_either [.d A, .d B] = some (.ok (.d T1), [])) (c2 : c__law_tl_least [.d (.lst O), .d (.int s), .d (.int M)] = some (.ok (.d T1), [])) (c3 : c_both [.d A, .d B] = some (.ok (.d T2), [])) (c4 : c__law_tl_least [.d (.lst N'), .d (.int s), .d (.int M)] = some (.ok (.d T2), []))
    (n1 : oNe T1 T1 = some (.bl false)) (n2 : oNe T2 T2 = some (.bl false)) (hr : oRep (.lst [.bl false]) (.int z) = some Z) :
    p__law_right_10 (Sr l A B (.int M) (.int s) (.int z) .no .no .no .no .no .no .no .no) = p__law_right_7 (Sr l A B (.int M) (.int s) (.int z) (.d (.lst L)) (.d (.lst R)) (.d (.lst [.lst O, .lst N'])) (.o none Z) .no .no .no .no) := by
  have i0 : atI [D.lst O, .lst N'] 0 = some (.lst O) := rfl
  have i1 : atI [D.lst O, .lst N'] 1 = some (.lst N') := rfl
  unfold p__law_right_10
  generalize p__law_right_7 = p
  simp [e1, e2, eo, ea, c1, c2, c3, c4, n1, n2, hr, i0, i1]
theorem run7 {x6 x7 x8 y10 y11 : Sl} {Z W js : List D} {n : D} (e3 : l__law_right_3 (Sr l A B (.int M) (.int s) (.int z) x6 x7 x8 (.o none Z) .no .no .no .no) = some (.ok js, Sr l A B (.int M) (.int s) (.int z) x6 x7 x8 (.o none Z) .no .no .no .no))
    (ef : fo (tgN 10) b__law_right_6 js (Sr l A B (.int M) (.int s) (.int z) x6 x7 x8 (.o none Z) .no .no .no .no) = some (.nx, Sr l A B (.int M) (.int s) (.int z) x6 x7 x8 (.o none W) y10 y11 .no .no))
    (c1 : c_added [.d A, .d B] = some (.ok (.d T1), [])) (c2 : c__law_tl_least [.d (.lst W), .d (.int s), .d (.int M)] = some (.ok (.d T1), [])) (c3 : c_added [.d B, .d A] = some (.ok (.d T1), [])) (n1 : oNe T1 T1 = some (.bl false))
    (ep : c__law_pick [.o l, .d (.lst [.int 0, .int 1, .int 5, .int 40])] = some (.ok (.d n), [l1])) :
    p__law_right_7 (Sr l A B (.int M) (.int s) (.int z) x6 x7 x8 (.o none Z) .no .no .no .no) = p__law_right_1 (Sr l1 A B (.int M) (.int s) (.int z) x6 x7 x8 (.d (.lst W)) y10 y11 (.d n) .no) := by
  have hq : ∀ ρ, q__law_right_2 ρ = some (.ok (.d (.lst [.int 0, .int 1, .int 5, .int 40])), ρ) := fun ρ => rfl
  unfold p__law_right_7
  generalize p__law_right_1 = p
  simp [e3, ef, c1, c2, c3, n1, ep, hq]
theorem run1 {x6 x7 x8 x9 x10 x11 : Sl} {n m : Int} {Z1 Z2 Z3 : List D} (a1 : oIx A (.int 1) = some (.int tA)) (a2 : oIx A (.int 2) = some (.int qA)) (hm : tA + qA = m) (hm2 : tA + n = M) (e1 : oMul (.lst [.bl false]) (.int n) = some (.lst Z1)) (e2 : c__law_flags [.d A, .d (.int m)] = some (.ok (.d (.lst Z2)), [])) (e3 : oAdd (.lst Z1) (.lst Z2) = some (.lst Z3))
    (c1 : c_moved [.d A, .d (.int n)] = some (.ok (.d T1), [])) (c2 : c__law_tl_least [.d (.lst Z3), .d (.int M), .d (.int qA)] = some (.ok (.d T1), [])) (n1 : oNe T1 T1 = some (.bl false)) (c3 : c_moved [.d A, .d (.int 0)] = some (.ok (.d A), [])) (n2 : oNe A A = some (.bl false))
    (c4 : c_added [.d A, .d k_EMPTY] = some (.ok (.d k_EMPTY), [])) (c5 : c_added [.d A, .d (.tup [.tup [.int 0], .int 1, .int 1, .tup []])] = some (.ok (.d A), [])) (c6 : c_either [.d A, .d k_EMPTY] = some (.ok (.d A), [])) (n3 : oEq k_EMPTY k_EMPTY = some (.bl true)) (n4 : oEq A A = some (.bl true)) {Mu sv zv : D} :
    p__law_right_1 (Sr l A B Mu sv zv x6 x7 x8 x9 x10 x11 (.d (.int n)) .no) = some (.rt (.bl true), Sr l A B Mu sv zv x6 x7 x8 x9 x10 x11 (.d (.int n)) (.d (.lst Z3))) := by
  have hq : ∀ ρ, q__law_right_0 ρ = some (.ok (.d (.tup [.tup [.int 0], .int 1, .int 1, .tup []])), ρ) := fun ρ => rfl
  unfold p__law_right_1
  simp [a1, a2, hm, hm2, e1, e2, e3, c1, c2, n1, c3, n2, c4, c5, c6, n3, n4, hq, -oIx]
end
end K14
end
section
set_option Elab.async false
set_option linter.all false
set_option maxRecDepth 100000
set_option maxHeartbeats 1000000
namespace K14
open PySem PySem.Spec L2 DL SetN
open PyProof.Rows hiding St
theorem right_aux {l l' : List D} {ρ : Rho} (h : g__law_right [.o (some 0) l, .no, .no, .no, .no, .no, .no, .no, .no, .no, .no, .no, .no, .no, .no, .no] = some (.rt (.bl true), .o (some 0) l' :: ρ)) : c__law_right [.o l] = some (.ok (.d (.bl true)), [l']) := by
  have h : g__law_right (startR 16 [.o l]) = some (.rt (.bl true), .o (some 0) l' :: ρ) := h
  have e : startR 16 [.o l] = [.o (some 0) l, .no, .no, .no, .no, .no, .no, .no, .no, .no, .no, .no, .no, .no, .no, .no] := rfl
  rw [e] at h
  unfold c__law_right
  generalize g__law_right = g at h
  simp [h]
theorem right_v {k : Nat} {l : List D} (hd : Dice k l) (hk : k ≤ 40000) : ∃ l', c__law_right [.o l] = some (.ok (.d (.bl true)), [l']) ∧ Dice (k + 50) l' := by
  obtain ⟨f, A, l1, e1, iA, d1⟩ := set_v (m := 7) hd (by omega) (by decide) (by decide)
  obtain ⟨g, B, l2, e2, iB, d2⟩ := set_v (m := 6) d1 (by omega) (by decide) (by decide)
  have hA := iA
  have hB := iB
  obtain ⟨t, q, rfl, c, h1, h2⟩ := iA
  obtain ⟨t', q', rfl, c', h1', h2'⟩ := iB
  have q1 := c.ep.1
  have q1' := c'.ep.1
  obtain ⟨M, em, m1, m2, m3, m4⟩ := mult_v h2 q1 q1' h2'
  have hs : (t : Int) + t' + M = ((t + t' + M : Nat) : Int) := by omega
  have hz : ((t + t' + M : Nat) : Int) + M = ((t + t' + M + M : Nat) : Int) := by omega
  have rG := runG e1 e2 rfl rfl rfl rfl em hs hz
  obtain ⟨T1, j1, k1⟩ := hA.either hB
  obtain ⟨T2, j2, k2⟩ := hA.both hB
  obtain ⟨T3, j3, k3⟩ := hA.added hB
  obtain ⟨T4, j4, k4⟩ := hB.added hA
  rw [smF_comm] at j4
  rw [j4.eq j3] at k4
  have pA := c.ep.up (t := t + t' + M) (by omega) m3 m1
  have pB := c'.ep.up (t := t + t' + M) (by omega) m3 m2
  have pS : EP (smF f g) (t + t' + M) M := (c.ep.up (Nat.le_refl _) m3 m1).sm (c'.ep.up (Nat.le_refl _) m3 m2)
  obtain ⟨U1, u1, v1⟩ := least_IsT (pA.or pB) (by omega)
  obtain ⟨U2, u2, v2⟩ := least_IsT (pA.an pB) (by omega)
  obtain ⟨U3, u3, v3⟩ := least_IsT pS (by omega)
  rw [u1.eq j1] at v1
  rw [u2.eq j2] at v2
  rw [u3.eq j3] at v3
  have r10 := run10 (l := l2) (law_flags_v c.ep (N := t + t' + M + M) (by omega)) (law_flags_v c'.ep (N := t + t' + M + M) (by omega)) (l9_v (by omega)) (l8_v (by omega)) k1 v1 k2 v2 j1.ne j2.ne (rep_v (by omega))
  obtain ⟨y10, y11, ef⟩ := fo6_v (l := l2) (A := tal f t q) (B := tal g t' q') (Mu := .int M) (s := .int ((t + t' + M : Nat) : Int)) (N := t + t' + M + M) (g := g) (x6 := .d (.lst (flL f (t + t' + M + M)))) (x8 := .d (.lst [.lst (flL (orF f g) (t + t' + M + M)), .lst (flL (anF f g) (t + t' + M + M))])) (by omega) ((List.range (t + t' + M + M)).filter f) noF .no .no (.inl rfl) fun k hk => List.mem_range.mp (List.mem_filter.mp hk).1
  rw [sum2_v] at ef
  obtain ⟨n, l3, ep, d3, hn⟩ := pick_v (xs := [D.int 0, .int 1, .int 5, .int 40]) d2 (by omega) (by simp) (by simp)
  obtain ⟨n, rfl, hn⟩ : ∃ m : Nat, n = .int m ∧ m ≤ 40 := by
    simp only [List.mem_cons, List.not_mem_nil, or_false] at hn
    rcases hn with rfl | rfl | rfl | rfl
    · exact ⟨0, rfl, by decide⟩
    · exact ⟨1, rfl, by decide⟩
    · exact ⟨5, rfl, by decide⟩
    · exact ⟨40, rfl, by decide⟩
  have r7 := run7 (l3_v (by omega)) ef k3 v3 k4 j3.ne ep
  obtain ⟨T5, j5, k5⟩ := hA.moved (n := n) (by omega)
  obtain ⟨U5, u5, v5⟩ := least_IsT (c.ep.sh n) (by omega)
  rw [u5.eq j5] at v5
  have hr := oMul_rep (xs := [D.bl false]) (k := n) (by omega) (by simp; omega)
  have er : (List.replicate n [D.bl false]).flatten = List.replicate n (D.bl false) := by simp
  rw [er] at hr
  have ha := add_lst (xs := List.replicate n (D.bl false)) (ys := flL f (t + q)) (by rw [List.length_replicate, flL_len]; omega)
  rw [sh_fl] at ha
  have e6 : n + (t + q) = t + n + q := by omega
  rw [e6] at ha
  have r1 := run1 (l := l3) (x6 := .d (.lst (flL f (t + t' + M + M)))) (x7 := .d (.lst (flL g (t + t' + M + M)))) (x8 := .d (.lst [.lst (flL (orF f g) (t + t' + M + M)), .lst (flL (anF f g) (t + t' + M + M))])) (x9 := .d (.lst (flL (smF f g) (t + t' + M + M)))) (x10 := y10) (x11 := y11) (Mu := .int M) (sv := .int ((t + t' + M : Nat) : Int)) (B := tal g t' q') (zv := .int ((t + t' + M + M : Nat) : Int)) (A := tal f t q) (tA := t) (qA := q) rfl rfl (Int.natCast_add _ _).symm (Int.natCast_add _ _).symm hr (law_flags_v c.ep (by omega)) ha k5 v5 j5.ne hA.moved_0 hA.is.ne hA.added_no hA.added_one hA.either_no ds_no.is.oe hA.is.oe
  exact ⟨l3, right_aux (rG.trans (r10.trans (r7.trans r1))), d3.up (by omega)⟩
end K14
end
section
set_option Elab.async false
set_option linter.all false
set_option maxRecDepth 100000
set_option maxHeartbeats 1000000
namespace K14
open PySem PySem.Spec L2 DL SetN
open PyProof.Rows hiding St
/-! the bounds -/
def pF (p r : Nat) : Nat → Bool := fun n => decide (n % p = r)
theorem can_p {p r : Nat} (h : r < p) : Can (pF p r) 0 p := can_of ⟨by omega, fun n _ => by unfold pF; rw [Nat.add_mod_right]⟩ (fun s d hh => by
  have e := hh.2 (r + p * s) (by have := Nat.mul_le_mul_right s (show 1 ≤ p by omega); omega)
  have h1 : (r + p * s) % p = r := by rw [Nat.add_mul_mod_self_left, Nat.mod_eq_of_lt h]
  have e2 : (r + p * s + d) % p = r := by
    unfold pF at e
    rw [h1, decide_eq_true rfl] at e
    exact of_decide_eq_true e
  have h3 := hh.1
  by_cases c : p ≤ d
  · exact c
  · exfalso
    have e4 : (r + p * s + d) % p = (r + d) % p := by
      rw [show r + p * s + d = r + d + p * s by omega, Nat.add_mul_mod_self_left]
    rw [e4] at e2
    by_cases w : r + d < p
    · rw [Nat.mod_eq_of_lt w] at e2; omega
    · rw [Nat.mod_eq_sub_mod (by omega), Nat.mod_eq_of_lt (by omega)] at e2; omega) (.inl rfl)
def geF (s : Nat) : Nat → Bool := fun n => decide (s ≤ n)
theorem can_g {s : Nat} (h : 1 ≤ s) : Can (geF s) s 1 := can_of ⟨by omega, fun n hn => by unfold geF; rw [decide_eq_true (by omega), decide_eq_true (by omega)]⟩ (fun _ _ hh => hh.1) (.inr (by unfold geF; rw [decide_eq_false (by omega), decide_eq_true (by omega)]; decide))
theorem fV_p {p r : Nat} (h : r < p) : fV [] 0 p [(r : Int)] = pF p r := funext fun n => by
  unfold fV hasV pF
  rw [if_neg (by omega)]
  have e : ((0 : Nat) : Int) + ((n : Int) - ((0 : Nat) : Int)) % (p : Int) = ((n % p : Nat) : Int) := by
    rw [Int.natCast_emod]
    simp
  rw [e]
  refine decide_eq_decide.mpr ⟨fun h => ?_, fun h => ?_⟩
  · have := List.mem_singleton.mp h; omega
  · exact List.mem_singleton.mpr (by omega)
theorem fV_g {s : Nat} : fV [] s 1 [(s : Int)] = geF s := funext fun n => by
  unfold fV hasV geF
  by_cases c : s ≤ n
  · rw [if_neg (by omega), decide_eq_true c]
    refine decide_eq_true (List.mem_singleton.mpr ?_)
    have : ((n : Int) - s) % ((1 : Nat) : Int) = 0 := Int.emod_one _
    omega
  · rw [if_pos (by omega), decide_eq_false c]
    exact decide_eq_false (fun z => nomatch z)
theorem told_p {p r : Nat} (h : r < p) (hp : p ≤ 4000) : c_tally_of [.d (.tup []), .d (.int 0), .d (.int p), .d (.tup [.int r])] = some (.ok (.d (tal (pF p r) 0 p)), []) := by
  obtain ⟨t, q, c, _, _, e⟩ := tally_of_v (b := []) (a := [(r : Int)]) (s := 0) (p := p) (by omega) (by omega) (by simp) (by simp) ⟨.nil, fun _ z => nomatch z⟩ ⟨List.pairwise_singleton _ _, fun x hx => by have := List.mem_singleton.mp hx; omega⟩
  rw [fV_p h] at c e
  obtain ⟨rfl, rfl⟩ := c.uniq (can_p h)
  exact e
theorem told_g {s : Nat} (h : 1 ≤ s) (hp : s + 1 ≤ 4000) : c_tally_of [.d (.tup []), .d (.int s), .d (.int 1), .d (.tup [.int s])] = some (.ok (.d (tal (geF s) s 1)), []) := by
  obtain ⟨t, q, c, _, _, e⟩ := tally_of_v (b := []) (a := [(s : Int)]) (s := s) (p := 1) (by omega) (by omega) (by simp) (by simp) ⟨.nil, fun _ z => nomatch z⟩ ⟨List.pairwise_singleton _ _, fun x hx => by have := List.mem_singleton.mp hx; omega⟩
  rw [fV_g] at c e
  obtain ⟨rfl, rfl⟩ := c.uniq (can_g h)
  exact e
abbrev TM : Option (Except Er Rt × List (List D)) := some (.error (.fl "TooMany" "limit" (.int 4000)), [])
theorem bound_no {n : Int} (h : 4000 < n) : c_require_bound [.d (.int n)] = TM := by
  unfold c_require_bound g_require_bound
  simp [h, sRaiseF]
section
variable {A B : D} {s1 s2 p1 p2 s p N n : Int}
theorem either_no_aux (q1 : c_require_tally [.d A] = some (.ok (.d .non), [])) (q2 : c_require_tally [.d B] = some (.ok (.d .non), [])) (a1 : oIx A (.int 1) = some (.int s1)) (a2 : oIx A (.int 2) = some (.int p1)) (b1 : oIx B (.int 1) = some (.int s2)) (b2 : oIx B (.int 2) = some (.int p2)) (hm : oMax [.int s1, .int s2] = some (.int s))
    (hc : c_common_multiple [.d (.int p1), .d (.int p2)] = some (.ok (.d (.int p)), [])) (hN : s + p = N) (hb : c_require_bound [.d (.int N)] = TM) : c_either [.d A, .d B] = TM := by
  have e : c_either_in [.d A, .d B] = TM := by
    unfold c_either_in g_either_in
    simp [a1, a2, b1, b2, hm, hc, hN, hb, setX, -oIx, -oMax]
  unfold c_either g_either
  simp [q1, q2, e]
theorem both_no_aux (q1 : c_require_tally [.d A] = some (.ok (.d .non), [])) (q2 : c_require_tally [.d B] = some (.ok (.d .non), [])) (a1 : oIx A (.int 1) = some (.int s1)) (a2 : oIx A (.int 2) = some (.int p1)) (b1 : oIx B (.int 1) = some (.int s2)) (b2 : oIx B (.int 2) = some (.int p2)) (hm : oMax [.int s1, .int s2] = some (.int s))
    (hc : c_common_multiple [.d (.int p1), .d (.int p2)] = some (.ok (.d (.int p)), [])) (hN : s + p = N) (hb : c_require_bound [.d (.int N)] = TM) : c_both [.d A, .d B] = TM := by
  unfold c_both g_both
  simp [q1, q2, a1, a2, b1, b2, hm, hc, hN, hb, setX, -oIx, -oMax]
theorem moved_no_aux (q1 : c_require_tally [.d A] = some (.ok (.d .non), [])) (q2 : c_require_from [.d (.int n), .d (.int 0), .d (.int 1000)] = some (.ok (.d .non), [])) (a1 : oIx A (.int 1) = some (.int s1)) (a2 : oIx A (.int 2) = some (.int p1)) (hs : s1 + n = s) (hN : s + p1 = N) (hb : c_require_bound [.d (.int N)] = TM) : c_moved [.d A, .d (.int n)] = TM := by
  have e : c_moved_in [.d A, .d (.int n)] = TM := by
    unfold c_moved_in g_moved_in
    simp [a1, a2, hs, hN, hb, setX, -oIx]
  unfold c_moved g_moved
  simp [q1, q2, e]
theorem added_no_aux {m : Int} (q1 : c_require_tally [.d A] = some (.ok (.d .non), [])) (q2 : c_require_tally [.d B] = some (.ok (.d .non), [])) (a1 : oIx A (.int 1) = some (.int s1)) (a2 : oIx A (.int 2) = some (.int p1)) (b1 : oIx B (.int 1) = some (.int s2)) (b2 : oIx B (.int 2) = some (.int p2))
    (hc : c_common_multiple [.d (.int p1), .d (.int p2)] = some (.ok (.d (.int p)), [])) (hm : s1 + s2 = m) (hs : m + p = s) (hN : s + p = N) (hb : c_require_bound [.d (.int N)] = TM) : c_added [.d A, .d B] = TM := by
  have e : c_added_in [.d A, .d B] = TM := by
    unfold c_added_in g_added_in
    simp [a1, a2, b1, b2, hc, hm, hs, hN, hb, setX, -oIx]
  unfold c_added g_added
  simp [q1, q2, e]
end
section
variable {f g : Nat → Bool} {t q t' q' : Nat}
theorem either_no (c : Can f t q) (c' : Can g t' q') (h1 : t + q ≤ 4000) (h2 : t' + q' ≤ 4000) (hb : 4000 < max t t' + Nat.lcm q q') : c_either [.d (tal f t q), .d (tal g t' q')] = TM :=
  either_no_aux (req_tally c h1) (req_tally c' h2) rfl rfl rfl rfl (max_v t t') (common_multiple_v c.ep.1 c'.ep.1 (by omega) (by omega)) (Int.natCast_add _ _).symm (bound_no (by omega))
theorem both_no (c : Can f t q) (c' : Can g t' q') (h1 : t + q ≤ 4000) (h2 : t' + q' ≤ 4000) (hb : 4000 < max t t' + Nat.lcm q q') : c_both [.d (tal f t q), .d (tal g t' q')] = TM :=
  both_no_aux (req_tally c h1) (req_tally c' h2) rfl rfl rfl rfl (max_v t t') (common_multiple_v c.ep.1 c'.ep.1 (by omega) (by omega)) (Int.natCast_add _ _).symm (bound_no (by omega))
theorem moved_no {n : Nat} (c : Can f t q) (h1 : t + q ≤ 4000) (hn : n ≤ 1000) (hb : 4000 < t + n + q) : c_moved [.d (tal f t q), .d (.int n)] = TM :=
  moved_no_aux (req_tally c h1) (req_from_v ((isw_iff (by omega) (by omega)).mpr ⟨by omega, by omega⟩)) rfl rfl (Int.natCast_add _ _).symm (Int.natCast_add _ _).symm (bound_no (by omega))
theorem added_no (c : Can f t q) (c' : Can g t' q') (h1 : t + q ≤ 4000) (h2 : t' + q' ≤ 4000) (hb : 4000 < t + t' + Nat.lcm q q' + Nat.lcm q q') : c_added [.d (tal f t q), .d (tal g t' q')] = TM :=
  added_no_aux (req_tally c h1) (req_tally c' h2) rfl rfl rfl rfl (common_multiple_v c.ep.1 c'.ep.1 (by omega) (by omega)) (Int.natCast_add _ _).symm (Int.natCast_add _ _).symm (Int.natCast_add _ _).symm (bound_no (by omega))
end
abbrev hd : Er → Option D := hnd__law_met
theorem hnd_tm : hd (.fl "TooMany" "limit" (.int 4000)) = some (.int 4000) := by
  show (if ("TooMany" : Str) = "TooMany" ∧ ("limit" : Str) = "limit" then some (D.int 4000) else none) = _
  rw [if_pos ⟨rfl, rfl⟩]
theorem met_fine {m : M Hd} {ρ : Rho} {y : Hd} (e : m ρ = some (.ok y, ρ)) : dMet hd "fine" m ρ = some (.ok (.d (.str "fine")), ρ) := by
  unfold dMet
  rw [e]
theorem met_tm {m : M Hd} {ρ : Rho} (e : m ρ = some (.error (.fl "TooMany" "limit" (.int 4000)), ρ)) : dMet hd "fine" m ρ = some (.ok (.d (.int 4000)), ρ) := by
  unfold dMet
  rw [e]
  dsimp only
  rw [hnd_tm]
theorem call2_ok {c : Con} {ρ : Rho} {a b : M Hd} {x y z : D} (hi : a ρ = some (.ok (.d x), ρ)) (hj : b ρ = some (.ok (.d y), ρ)) (e : c [.d x, .d y] = some (.ok (.d z), [])) : dCall [false, false] c (dCons a (dCons b dNil)) ρ = some (.ok (.d z), ρ) := by
  simp [hi, hj, e]
theorem call2_tm {c : Con} {ρ : Rho} {a b : M Hd} {x y : D} (hi : a ρ = some (.ok (.d x), ρ)) (hj : b ρ = some (.ok (.d y), ρ)) (e : c [.d x, .d y] = TM) : dCall [false, false] c (dCons a (dCons b dNil)) ρ = some (.error (.fl "TooMany" "limit" (.int 4000)), ρ) := by
  simp [hi, hj, e]
theorem call4_ok {c : Con} {ρ : Rho} {a b d e : M Hd} {x y z w v : D} (h1 : a ρ = some (.ok (.d x), ρ)) (h2 : b ρ = some (.ok (.d y), ρ)) (h3 : d ρ = some (.ok (.d z), ρ)) (h4 : e ρ = some (.ok (.d w), ρ)) (q : c [.d x, .d y, .d z, .d w] = some (.ok (.d v), [])) : dCall [false, false, false, false] c (dCons a (dCons b (dCons d (dCons e dNil)))) ρ = some (.ok (.d v), ρ) := by
  simp [h1, h2, h3, h4, q]
theorem app_v {i : Nat} {m : M Hd} {ρ : Rho} {b : Option Nat} {xs ys : List D} {x : D} (hm : m ρ = some (.ok (.d x), ρ)) (hi : ρ[i]? = some (.o b xs)) (hl : appD x xs = some ys) : sExpr (dAppend i m) ρ = some (.nx, ρ.set i (.o b ys)) := by
  simp [hm, hi, hl, -appD]
abbrev tof (s p r : Int) : M Hd := dCall [false, false, false, false] c_tally_of (dCons (dTup dNil) (dCons (dK (.int s)) (dCons (dK (.int p)) (dCons (dTup (dCons (dK (.int r)) dNil)) dNil))))
theorem tof_v {s p r : Int} {T : D} {ρ : Rho} (h : c_tally_of [.d (.tup []), .d (.int s), .d (.int p), .d (.tup [.int r])] = some (.ok (.d T), [])) : tof s p r ρ = some (.ok (.d T), ρ) := call4_ok rfl rfl rfl rfl h
abbrev late : D := tal (geF 3900) 3900 1
abbrev long : D := tal (pF 67 3) 0 67
abbrev seven : D := tal (pF 61 0) 0 61
abbrev Sb (A B C : D) (xs : List D) : Rho := [.o none xs, .d A, .d B, .d C]
theorem asg2_v {m1 m2 : M Hd} {C B : D} {ρ : Rho} (h1 : m1 ρ = some (.ok (.d C), ρ)) (h2 : m2 ρ = some (.ok (.d B), ρ)) : sAsgT (tgT 2 (tgCons (tgN 3) (tgCons (tgN 2) tgNil))) (dTup (dCons m1 (dCons m2 dNil))) ρ = some (.nx, (ρ.set 3 (.d C)).set 2 (.d B)) := by
  simp [h1, h2]
theorem par_v {m : M Hd} {A : D} {ρ : Rho} (h : m ρ = some (.ok (.d A), ρ)) : sPar2 1 0 (xD m (xO (dLst dNil) xNil)) ρ = some (.nx, (ρ.set 1 (.d A)).set 0 (.o none [])) := by
  simp [h, setX]
theorem b_start_aux {A B C : D} (h1 : c_tally_of [.d (.tup []), .d (.int 0), .d (.int 61), .d (.tup [.int 0])] = some (.ok (.d C), [])) (h2 : c_tally_of [.d (.tup []), .d (.int 0), .d (.int 67), .d (.tup [.int 3])] = some (.ok (.d B), [])) (h3 : c_tally_of [.d (.tup []), .d (.int 3900), .d (.int 1), .d (.tup [.int 3900])] = some (.ok (.d A), [])) :
    g__law_bounds_right [.no, .no, .no, .no] = p__law_bounds_right_2 (Sb A B C []) := by
  show sSeq (sAsgT (tgT 2 (tgCons (tgN 3) (tgCons (tgN 2) tgNil))) (dTup (dCons (tof 0 61 0) (dCons (tof 0 67 3) dNil)))) (sSeq (sPar2 1 0 (xD (tof 3900 1 3900) (xO (dLst dNil) xNil))) p__law_bounds_right_2) _ = _
  rw [sSeq_ap, asg2_v (tof_v h1) (tof_v h2)]
  show sSeq _ _ [.no, .no, .d B, .d C] = _
  rw [sSeq_ap, par_v (tof_v h3)]
  rfl
theorem b_run {A B C : D} (m1 : ∀ xs, dMet hd "fine" (dCall [false, false] c_either (dCons (dVar 3) (dCons (tof 0 65 1) dNil))) (Sb A B C xs) = some (.ok (.d (.str "fine")), Sb A B C xs)) (m2 : ∀ xs, dMet hd "fine" (dCall [false, false] c_either (dCons (dVar 3) (dCons (dVar 2) dNil))) (Sb A B C xs) = some (.ok (.d (.int 4000)), Sb A B C xs))
    (m3 : ∀ xs, dMet hd "fine" (dCall [false, false] c_both (dCons (dVar 2) (dCons (dVar 3) dNil))) (Sb A B C xs) = some (.ok (.d (.int 4000)), Sb A B C xs)) (m4 : ∀ xs, dMet hd "fine" (dCall [false, false] c_moved (dCons (dVar 1) (dCons (dK (.int 99)) dNil))) (Sb A B C xs) = some (.ok (.d (.str "fine")), Sb A B C xs))
    (m5 : ∀ xs, dMet hd "fine" (dCall [false, false] c_moved (dCons (dVar 1) (dCons (dK (.int 100)) dNil))) (Sb A B C xs) = some (.ok (.d (.int 4000)), Sb A B C xs)) (m6 : ∀ xs, dMet hd "fine" (dCall [false, false] c_added (dCons (tof 0 16 0) (dCons (tof 0 125 0) dNil))) (Sb A B C xs) = some (.ok (.d (.str "fine")), Sb A B C xs))
    (m7 : ∀ xs, dMet hd "fine" (dCall [false, false] c_added (dCons (tof 0 23 0) (dCons (tof 0 87 0) dNil))) (Sb A B C xs) = some (.ok (.d (.int 4000)), Sb A B C xs)) (m8 : ∀ xs, dMet hd "fine" (dCall [false, false] c_added (dCons (dVar 1) (dCons (tof 99 1 99) dNil))) (Sb A B C xs) = some (.ok (.d (.int 4000)), Sb A B C xs))
    (m9 : ∀ xs, dMet hd "fine" (dCall [false, false] c_added (dCons (dVar 1) (dCons (tof 98 1 98) dNil))) (Sb A B C xs) = some (.ok (.d (.str "fine")), Sb A B C xs)) :
    p__law_bounds_right_2 (Sb A B C []) = some (.rt (.bl true), Sb A B C [.str "fine", .int 4000, .int 4000, .str "fine", .int 4000, .str "fine", .int 4000, .int 4000, .str "fine"]) := by
  show sSeq (sExpr (dAppend 0 (dMet hd "fine" (dCall [false, false] c_either (dCons (dVar 3) (dCons (tof 0 65 1) dNil)))))) (sSeq (sExpr (dAppend 0 (dMet hd "fine" (dCall [false, false] c_either (dCons (dVar 3) (dCons (dVar 2) dNil)))))) (sSeq (sExpr (dAppend 0 (dMet hd "fine" (dCall [false, false] c_both (dCons (dVar 2) (dCons (dVar 3) dNil)))))) (sSeq (sExpr (dAppend 0 (dMet hd "fine" (dCall [false, false] c_moved (dCons (dVar 1) (dCons (dK (.int 99)) dNil)))))) (sSeq (sExpr (dAppend 0 (dMet hd "fine" (dCall [false, false] c_moved (dCons (dVar 1) (dCons (dK (.int 100)) dNil)))))) (sSeq (sExpr (dAppend 0 (dMet hd "fine" (dCall [false, false] c_added (dCons (tof 0 16 0) (dCons (tof 0 125 0) dNil)))))) (sSeq (sExpr (dAppend 0 (dMet hd "fine" (dCall [false, false] c_added (dCons (tof 0 23 0) (dCons (tof 0 87 0) dNil)))))) (sSeq (sExpr (dAppend 0 (dMet hd "fine" (dCall [false, false] c_added (dCons (dVar 1) (dCons (tof 99 1 99) dNil)))))) (sSeq (sExpr (dAppend 0 (dMet hd "fine" (dCall [false, false] c_added (dCons (dVar 1) (dCons (tof 98 1 98) dNil)))))) p__law_bounds_right_1)))))))) _ = _
  rw [sSeq_ap, app_v (m1 _) rfl rfl]
  show sSeq _ _ (Sb A B C [_]) = _
  rw [sSeq_ap, app_v (m2 _) rfl rfl]
  show sSeq _ _ (Sb A B C [_, _]) = _
  rw [sSeq_ap, app_v (m3 _) rfl rfl]
  show sSeq _ _ (Sb A B C [_, _, _]) = _
  rw [sSeq_ap, app_v (m4 _) rfl rfl]
  show sSeq _ _ (Sb A B C [_, _, _, _]) = _
  rw [sSeq_ap, app_v (m5 _) rfl rfl]
  show sSeq _ _ (Sb A B C [_, _, _, _, _]) = _
  rw [sSeq_ap, app_v (m6 _) rfl rfl]
  show sSeq _ _ (Sb A B C [_, _, _, _, _, _]) = _
  rw [sSeq_ap, app_v (m7 _) rfl rfl]
  show sSeq _ _ (Sb A B C [_, _, _, _, _, _, _]) = _
  rw [sSeq_ap, app_v (m8 _) rfl rfl]
  show sSeq _ _ (Sb A B C [_, _, _, _, _, _, _, _]) = _
  rw [sSeq_ap, app_v (m9 _) rfl rfl]
  show p__law_bounds_right_1 (Sb A B C [.str "fine", .int 4000, .int 4000, .str "fine", .int 4000, .str "fine", .int 4000, .int 4000, .str "fine"]) = _
  have hq : ∀ ρ, q__law_bounds_right_0 ρ = some (.ok (.d (.lst [.str "fine", .int 4000, .int 4000, .str "fine", .int 4000, .str "fine", .int 4000, .int 4000, .str "fine"])), ρ) := fun ρ => rfl
  have he : oEq (.lst [.str "fine", .int 4000, .int 4000, .str "fine", .int 4000, .str "fine", .int 4000, .int 4000, .str "fine"]) (.lst [.str "fine", .int 4000, .int 4000, .str "fine", .int 4000, .str "fine", .int 4000, .int 4000, .str "fine"]) = some (.bl true) := by kernel_rfl
  unfold p__law_bounds_right_1
  simp [hq, he]
end K14
end
section
set_option Elab.async false
set_option linter.all false
set_option maxRecDepth 100000
set_option maxHeartbeats 1000000
namespace K14
open PySem PySem.Spec L2 DL SetN
open PyProof.Rows hiding St
theorem lcm_a : Nat.lcm 61 65 = 3965 := by decide +kernel
theorem lcm_b : Nat.lcm 61 67 = 4087 := by decide +kernel
theorem lcm_c : Nat.lcm 67 61 = 4087 := by decide +kernel
theorem lcm_d : Nat.lcm 16 125 = 2000 := by decide +kernel
theorem lcm_e : Nat.lcm 23 87 = 2001 := by decide +kernel
theorem lcm_f : Nat.lcm 1 1 = 1 := by decide +kernel
theorem bounds_run {A B C T65 T16 T125 T23 T87 T99 T98 z1 z2 z3 z4 : D} (h1 : c_tally_of [.d (.tup []), .d (.int 0), .d (.int 61), .d (.tup [.int 0])] = some (.ok (.d C), [])) (h2 : c_tally_of [.d (.tup []), .d (.int 0), .d (.int 67), .d (.tup [.int 3])] = some (.ok (.d B), [])) (h3 : c_tally_of [.d (.tup []), .d (.int 3900), .d (.int 1), .d (.tup [.int 3900])] = some (.ok (.d A), []))
    (t1 : c_tally_of [.d (.tup []), .d (.int 0), .d (.int 65), .d (.tup [.int 1])] = some (.ok (.d T65), [])) (t2 : c_tally_of [.d (.tup []), .d (.int 0), .d (.int 16), .d (.tup [.int 0])] = some (.ok (.d T16), [])) (t3 : c_tally_of [.d (.tup []), .d (.int 0), .d (.int 125), .d (.tup [.int 0])] = some (.ok (.d T125), []))
    (t4 : c_tally_of [.d (.tup []), .d (.int 0), .d (.int 23), .d (.tup [.int 0])] = some (.ok (.d T23), [])) (t5 : c_tally_of [.d (.tup []), .d (.int 0), .d (.int 87), .d (.tup [.int 0])] = some (.ok (.d T87), [])) (t6 : c_tally_of [.d (.tup []), .d (.int 99), .d (.int 1), .d (.tup [.int 99])] = some (.ok (.d T99), [])) (t7 : c_tally_of [.d (.tup []), .d (.int 98), .d (.int 1), .d (.tup [.int 98])] = some (.ok (.d T98), []))
    (r1 : c_either [.d C, .d T65] = some (.ok (.d z1), [])) (r2 : c_either [.d C, .d B] = TM) (r3 : c_both [.d B, .d C] = TM) (r4 : c_moved [.d A, .d (.int 99)] = some (.ok (.d z2), [])) (r5 : c_moved [.d A, .d (.int 100)] = TM) (r6 : c_added [.d T16, .d T125] = some (.ok (.d z3), [])) (r7 : c_added [.d T23, .d T87] = TM) (r8 : c_added [.d A, .d T99] = TM) (r9 : c_added [.d A, .d T98] = some (.ok (.d z4), [])) :
    ∃ ρ, g__law_bounds_right [.no, .no, .no, .no] = some (.rt (.bl true), ρ) := by
  refine ⟨_, (b_start_aux h1 h2 h3).trans (b_run (fun xs => met_fine (call2_ok rfl (tof_v t1) r1)) (fun xs => met_tm (call2_tm rfl rfl r2)) (fun xs => met_tm (call2_tm rfl rfl r3)) (fun xs => met_fine (call2_ok rfl rfl r4)) (fun xs => met_tm (call2_tm rfl rfl r5)) (fun xs => met_fine (call2_ok (tof_v t2) (tof_v t3) r6)) (fun xs => met_tm (call2_tm (tof_v t4) (tof_v t5) r7)) (fun xs => met_tm (call2_tm rfl (tof_v t6) r8)) (fun xs => met_fine (call2_ok rfl (tof_v t7) r9)))⟩
theorem bounds_aux {ρ : Rho} (h : g__law_bounds_right [.no, .no, .no, .no] = some (.rt (.bl true), ρ)) : c__law_bounds_right [] = some (.ok (.d (.bl true)), []) := by
  have e : startR 4 [] = [.no, .no, .no, .no] := rfl
  rw [← e] at h
  unfold c__law_bounds_right
  generalize g__law_bounds_right = g at h
  unfold conOf
  rw [h]
  rfl
theorem bounds_v : c__law_bounds_right [] = some (.ok (.d (.bl true)), []) := by
  have p61 := can_p (show 0 < 61 by decide)
  have p67 := can_p (show 3 < 67 by decide)
  have p65 := can_p (show 1 < 65 by decide)
  have p16 := can_p (show 0 < 16 by decide)
  have p125 := can_p (show 0 < 125 by decide)
  have p23 := can_p (show 0 < 23 by decide)
  have p87 := can_p (show 0 < 87 by decide)
  have g39 := can_g (show 1 ≤ 3900 by decide)
  have g99 := can_g (show 1 ≤ 99 by decide)
  have g98 := can_g (show 1 ≤ 98 by decide)
  obtain ⟨_, _, _, _, _, r1⟩ := either_v p61 p65 (by decide) (by decide) (by rw [lcm_a]; decide)
  obtain ⟨_, _, _, _, _, r4⟩ := moved_v (n := 99) g39 (by decide) (by decide)
  obtain ⟨_, _, _, _, _, r6⟩ := added_v p16 p125 (by decide) (by decide) (by rw [lcm_d]; decide)
  obtain ⟨_, _, _, _, _, r9⟩ := added_v g39 g98 (by decide) (by decide) (by rw [lcm_f]; decide)
  have r2 := either_no p61 p67 (by decide) (by decide) (by rw [lcm_b]; decide)
  have r3 := both_no p67 p61 (by decide) (by decide) (by rw [lcm_c]; decide)
  have r5 := moved_no (n := 100) g39 (by decide) (by decide) (by decide)
  have r7 := added_no p23 p87 (by decide) (by decide) (by rw [lcm_e]; decide)
  have r8 := added_no g39 g99 (by decide) (by decide) (by rw [lcm_f]; decide)
  obtain ⟨ρ, e⟩ := bounds_run (told_p (p := 61) (r := 0) (by decide) (by decide)) (told_p (p := 67) (r := 3) (by decide) (by decide)) (told_g (s := 3900) (by decide) (by decide)) (told_p (p := 65) (r := 1) (by decide) (by decide)) (told_p (p := 16) (r := 0) (by decide) (by decide)) (told_p (p := 125) (r := 0) (by decide) (by decide)) (told_p (p := 23) (r := 0) (by decide) (by decide)) (told_p (p := 87) (r := 0) (by decide) (by decide)) (told_g (s := 99) (by decide) (by decide)) (told_g (s := 98) (by decide) (by decide)) r1 r2 r3 r4 r5 r6 r7 r8 r9
  exact bounds_aux e
theorem turn_body {Sc sp x3 : Sl} {k : Nat} {l : List D} (hd : Dice k l) (hk : k ≤ 40000) : ∃ l', b_law_0 [Sc, sp, .o none l, x3] = some (.nx, [Sc, sp, .o none l', x3]) ∧ Dice (k + 50) l' := by
  obtain ⟨l', e, d⟩ := right_v hd hk
  refine ⟨l', ?_, d⟩
  unfold b_law_0
  simp [e]
theorem fo_turn {Sc sp : Sl} : ∀ (xs : List D) (k : Nat) (l : List D), Dice k l → k + 50 * xs.length ≤ 40000 → ∀ x3, ∃ l' y3, fo (tgN 3) b_law_0 xs [Sc, sp, .o none l, x3] = some (.nx, [Sc, sp, .o none l', y3])
  | [], k, l, _, _, x3 => ⟨l, x3, rfl⟩
  | x :: xs, k, l, hd, hk, x3 => by
    rw [List.length_cons] at hk
    obtain ⟨l1, e1, d1⟩ := turn_body (Sc := Sc) (sp := sp) (x3 := .d x) hd (by omega)
    obtain ⟨l2, z3, e2⟩ := fo_turn xs (k + 50) l1 d1 (by omega) (.d x)
    exact ⟨l2, z3, (fo_cons rfl e1).trans e2⟩
theorem spot_body {ns : List Int} {spot : Nat} (hs : spot ≤ 100) (x2 x3 : Sl) : ∃ y2 y3, b_law_1 [.d (.scr ns), .d (.int spot), x2, x3] = some (.nx, [.d (.scr ns), .d (.int spot), y2, y3]) := by
  obtain ⟨l, e, d⟩ := dice_v ns hs
  obtain ⟨l2, y3, e2⟩ := fo_turn (Sc := .d (.scr ns)) (sp := .d (.int spot)) (rngD 0 4) 0 l d (by rw [rngD_len]; decide) x3
  refine ⟨.o none l2, y3, ?_⟩
  have r := rng1_v (N := 4) (by decide)
  have r : oRng1 (.int 4) = some (rngD 0 4) := r
  unfold b_law_1
  simp [e, r, e2]
theorem fo_spot {ns : List Int} : ∀ (xs : List D), (∀ x ∈ xs, ∃ n : Nat, n ≤ 100 ∧ x = .int n) → ∀ x1 x2 x3, ∃ y1 y2 y3, fo (tgN 1) b_law_1 xs [.d (.scr ns), x1, x2, x3] = some (.nx, [.d (.scr ns), y1, y2, y3])
  | [], _, x1, x2, x3 => ⟨x1, x2, x3, rfl⟩
  | x :: xs, h, x1, x2, x3 => by
    obtain ⟨n, hn, rfl⟩ := h x List.mem_cons_self
    obtain ⟨y2, y3, e1⟩ := spot_body (ns := ns) hn x2 x3
    obtain ⟨z1, z2, z3, e2⟩ := fo_spot (ns := ns) xs (fun y hy => h y (List.mem_cons_of_mem _ hy)) (.d (.int n)) y2 y3
    exact ⟨z1, z2, z3, (fo_cons rfl e1).trans e2⟩
theorem ret0 {cb : Con} {ρ : Rho} (hb : cb [] = some (.ok (.d (.bl true)), [])) : sRet (dCall [] cb dNil) ρ = some (.rt (.bl true), ρ) := by
  simp [hb]
theorem law_end {g : MS} {A : D} {y1 y2 y3 : Sl} (h : g [.d A, .no, .no, .no] = some (.rt (.bl true), [.d A, y1, y2, y3])) : conOf 1 4 g [.d A] = some (.ok (.d (.bl true)), []) := by
  have e : startR 4 [.d A] = [.d A, .no, .no, .no] := rfl
  rw [← e] at h
  unfold conOf
  rw [if_pos (show [Av.d A].length = 1 from rfl), h]
  rfl
theorem for_v {ns : List Int} {N m : Int} {xs : List D} {y1 y2 y3 : Sl} {b : MS} (hmin : oMin [.int 8, .int (ns.length : Nat)] = some (.int m)) (hmax : oMax [.int 1, .int m] = some (.int N)) (hr : oRng1 (.int N) = some xs) (hf : fo (tgN 1) b xs [.d (.scr ns), .no, .no, .no] = some (.nx, [.d (.scr ns), y1, y2, y3])) :
    sFor (dRng1 (dCallB oMax (dCons (dK (.int 1)) (dCons (dCallB oMin (dCons (dK (.int 8)) (dCons (dCallB oLen (dCons (dVar 0) dNil)) dNil))) dNil)))) (tgN 1) b [.d (.scr ns), .no, .no, .no] = some (.nx, [.d (.scr ns), y1, y2, y3]) := by
  simp [hmin, hmax, hr, hf, -oMin, -oMax]
theorem law_aux {ns : List Int} {N : Int} {xs : List D} {y1 y2 y3 : Sl} (hN : (if (if (ns.length : Int) < 8 then (ns.length : Int) else 8) > 1 then (if (ns.length : Int) < 8 then (ns.length : Int) else 8) else 1) = N) (hr : oRng1 (.int N) = some xs) (hf : fo (tgN 1) b_law_1 xs [.d (.scr ns), .no, .no, .no] = some (.nx, [.d (.scr ns), y1, y2, y3])) (hb : c__law_bounds_right [] = some (.ok (.d (.bl true)), [])) :
    c_law [.d (.scr ns)] = some (.ok (.d (.bl true)), []) := by
  have hmin : oMin [.int 8, .int (ns.length : Nat)] = some (.int (if (ns.length : Int) < 8 then (ns.length : Int) else 8)) := rfl
  have hmax : oMax [.int 1, .int (if (ns.length : Int) < 8 then (ns.length : Int) else 8)] = some (.int N) := by rw [← hN] <;> rfl
  have f1 := for_v (b := b_law_1) hmin hmax hr hf
  refine law_end (g := g_law) (A := .scr ns) (y1 := y1) (y2 := y2) (y3 := y3) ?_
  show sSeq (sFor (dRng1 (dCallB oMax (dCons (dK (.int 1)) (dCons (dCallB oMin (dCons (dK (.int 8)) (dCons (dCallB oLen (dCons (dVar 0) dNil)) dNil))) dNil)))) (tgN 1) b_law_1) (sRet (dCall [] c__law_bounds_right dNil)) _ = _
  rw [sSeq_ap, f1]
  exact ret0 hb
theorem law_true : ∀ ns : List Int, ns.length ≤ 63 → c_law [.d (.scr ns)] = some (.ok (.d (.bl true)), []) := by
  intro ns _
  obtain ⟨N, hN, h8⟩ : ∃ N : Nat, (if (if (ns.length : Int) < 8 then (ns.length : Int) else 8) > 1 then (if (ns.length : Int) < 8 then (ns.length : Int) else 8) else 1) = (N : Int) ∧ N ≤ 8 := by
    by_cases c : (ns.length : Int) < 8
    · rw [if_pos c]
      by_cases c2 : (ns.length : Int) > 1
      · exact ⟨ns.length, by rw [if_pos c2], by omega⟩
      · exact ⟨1, by rw [if_neg c2] <;> rfl, by decide⟩
    · rw [if_neg c]
      exact ⟨8, by rw [if_pos (by decide)] <;> rfl, by decide⟩
  obtain ⟨y1, y2, y3, e⟩ := fo_spot (ns := ns) (rngD 0 N) (fun x hx => by
    obtain ⟨k, hk, rfl⟩ := mem_rngD hx
    exact ⟨k, by omega, by simp⟩) .no .no .no
  exact law_aux hN (rng1_v (N := N) (by omega)) e bounds_v
end K14
end
section
set_option Elab.async false
set_option linter.all false
set_option maxRecDepth 100000
set_option maxHeartbeats 4000000
namespace K14
open PySem PySem.Spec L2 DL
open PyProof.Rows hiding St
def topS (i : Nat) : Stmt := PySem.Challenge.pw_whichsums_k14_whole_sets_of_two.main.body.getD i (.Pass ⟨0, 0, 0, 0⟩)
abbrev s_is_integer : Stmt := topS 2
abbrev s_has_in : Stmt := topS 15
abbrev s_divisors_of : Stmt := topS 16
abbrev s_common_multiple : Stmt := topS 25
abbrev s_sums_of : Stmt := topS 32
abbrev s__law_dice : Stmt := topS 36
abbrev s__law_roll : Stmt := topS 37
abbrev s__law_tl_has : Stmt := topS 39
abbrev s__law_tl_least : Stmt := topS 40
abbrev s__law_multiple : Stmt := topS 44
abbrev s_is_within : Stmt := topS 3
abbrev s_least_period : Stmt := topS 17
abbrev s_flags_in : Stmt := topS 19
abbrev s__law_pick : Stmt := topS 38
abbrev s__law_tl_of : Stmt := topS 41
abbrev s__law_flags : Stmt := topS 43
abbrev s_is_row_within : Stmt := topS 13
abbrev s_tally_of_flags : Stmt := topS 18
abbrev s_require_from : Stmt := topS 23
abbrev s_require_bound : Stmt := topS 26
abbrev s__law_set : Stmt := topS 42
abbrev s_is_told_set : Stmt := topS 14
abbrev s_least_in : Stmt := topS 20
abbrev s_either_in : Stmt := topS 27
abbrev s_moved_in : Stmt := topS 30
abbrev s_added_in : Stmt := topS 33
abbrev s_is_tally : Stmt := topS 21
abbrev s_tally_of : Stmt := topS 24
abbrev s_require_tally : Stmt := topS 22
abbrev s_either : Stmt := topS 28
abbrev s_both : Stmt := topS 29
abbrev s_moved : Stmt := topS 31
abbrev s_added : Stmt := topS 34
abbrev s__law_right : Stmt := topS 45
abbrev s__law_bounds_right : Stmt := topS 47
abbrev s_law : Stmt := topS 48
abbrev s__law_met : Stmt := topS 46
abbrev si_InvalidNumber : Stmt := inClass (topS 8) 0
abbrev si_TooMany : Stmt := inClass (topS 7) 0
instance tb : Tb0 := ⟨fun K => [((He.cT K ("_law_bounds_right", none)).2, "_law_bounds_right.<locals>.<lambda>")]⟩
structure Facts (K : PySem.W.Frag) (mg : Str → Option Value) : Prop where
  f_abs : mg "abs" = none
  f_all : mg "all" = none
  f_any : mg "any" = none
  f_bool : mg "bool" = none
  f_enumerate : mg "enumerate" = none
  f_int : mg "int" = none
  f_isinstance : mg "isinstance" = none
  f_len : mg "len" = none
  f_list : mg "list" = none
  f_max : mg "max" = none
  f_min : mg "min" = none
  f_range : mg "range" = none
  f_tuple : mg "tuple" = none
  f_zip : mg "zip" = none
  k_EMPTY : DatOf K mg "EMPTY" k_EMPTY
  k_LONGEST : ∃ t, mg "LONGEST" = some (.int k_LONGEST t)
  k_MAX_BOUND : ∃ t, mg "MAX_BOUND" = some (.int k_MAX_BOUND t)
  k_MAX_MEMBERS : ∃ t, mg "MAX_MEMBERS" = some (.int k_MAX_MEMBERS t)
  d__law_met : ∃ fd, FunD K "_law_met" "_law_met" (defArgs s__law_met) (defBody s__law_met) (defScope s__law_met) [] [] (He.ga K "_law_met") fd
  g__law_met : mg "_law_met" = some (.ref (He.ga K "_law_met"))
  g_InvalidNumber : mg "InvalidNumber" = some (.ref (He.ga K "InvalidNumber"))
  x_InvalidNumber : flB K (He.ga K "InvalidNumber") "number" [.type "RuntimeError", .type "Exception", .type "BaseException", .type "object"] "RuntimeError.__new__" = true
  d_InvalidNumber : ∃ fd, FunD K "__init__" "InvalidNumber.__init__" (defArgs si_InvalidNumber) (defBody si_InvalidNumber) (defScope si_InvalidNumber) [] [] (He.ma K (He.ga K "InvalidNumber") "__init__") fd
  g_InvalidOperation : mg "InvalidOperation" = some (.ref (He.ga K "InvalidOperation"))
  x_InvalidOperation : plB K (He.ga K "InvalidOperation") [.type "ValueError", .type "Exception", .type "BaseException", .type "object"] "ValueError.__new__" = true
  g_TooMany : mg "TooMany" = some (.ref (He.ga K "TooMany"))
  x_TooMany : flB K (He.ga K "TooMany") "limit" [.type "OverflowError", .type "ArithmeticError", .type "Exception", .type "BaseException", .type "object"] "OverflowError.__new__" = true
  d_TooMany : ∃ fd, FunD K "__init__" "TooMany.__init__" (defArgs si_TooMany) (defBody si_TooMany) (defScope si_TooMany) [] [] (He.ma K (He.ga K "TooMany") "__init__") fd
  e_InvalidNumber_TooMany : PySem.W.exmOne K (.ref (He.ga K "InvalidNumber")) (.ref (He.ga K "TooMany")) = some false
  e_InvalidOperation_TooMany : PySem.W.exmOne K (.ref (He.ga K "InvalidOperation")) (.ref (He.ga K "TooMany")) = some false
  e_TooMany_TooMany : PySem.W.exmOne K (.ref (He.ga K "TooMany")) (.ref (He.ga K "TooMany")) = some true
  d_is_integer : ∃ fd, FunD K "is_integer" "is_integer" (defArgs s_is_integer) (defBody s_is_integer) (defScope s_is_integer) [] [] (He.ga K "is_integer") fd
  g_is_integer : mg "is_integer" = some (.ref (He.ga K "is_integer"))
  d_has_in : ∃ fd, FunD K "has_in" "has_in" (defArgs s_has_in) (defBody s_has_in) (defScope s_has_in) [] [] (He.ga K "has_in") fd
  g_has_in : mg "has_in" = some (.ref (He.ga K "has_in"))
  d_divisors_of : ∃ fd, FunD K "divisors_of" "divisors_of" (defArgs s_divisors_of) (defBody s_divisors_of) (defScope s_divisors_of) [] [] (He.ga K "divisors_of") fd
  g_divisors_of : mg "divisors_of" = some (.ref (He.ga K "divisors_of"))
  d_common_multiple : ∃ fd, FunD K "common_multiple" "common_multiple" (defArgs s_common_multiple) (defBody s_common_multiple) (defScope s_common_multiple) [] [] (He.ga K "common_multiple") fd
  g_common_multiple : mg "common_multiple" = some (.ref (He.ga K "common_multiple"))
  d_sums_of : ∃ fd, FunD K "sums_of" "sums_of" (defArgs s_sums_of) (defBody s_sums_of) (defScope s_sums_of) [] [] (He.ga K "sums_of") fd
  g_sums_of : mg "sums_of" = some (.ref (He.ga K "sums_of"))
  d__law_dice : ∃ fd, FunD K "_law_dice" "_law_dice" (defArgs s__law_dice) (defBody s__law_dice) (defScope s__law_dice) [] [] (He.ga K "_law_dice") fd
  g__law_dice : mg "_law_dice" = some (.ref (He.ga K "_law_dice"))
  d__law_roll : ∃ fd, FunD K "_law_roll" "_law_roll" (defArgs s__law_roll) (defBody s__law_roll) (defScope s__law_roll) [] [] (He.ga K "_law_roll") fd
  g__law_roll : mg "_law_roll" = some (.ref (He.ga K "_law_roll"))
  d__law_tl_has : ∃ fd, FunD K "_law_tl_has" "_law_tl_has" (defArgs s__law_tl_has) (defBody s__law_tl_has) (defScope s__law_tl_has) [] [] (He.ga K "_law_tl_has") fd
  g__law_tl_has : mg "_law_tl_has" = some (.ref (He.ga K "_law_tl_has"))
  d__law_tl_least : ∃ fd, FunD K "_law_tl_least" "_law_tl_least" (defArgs s__law_tl_least) (defBody s__law_tl_least) (defScope s__law_tl_least) [] [] (He.ga K "_law_tl_least") fd
  g__law_tl_least : mg "_law_tl_least" = some (.ref (He.ga K "_law_tl_least"))
  d__law_multiple : ∃ fd, FunD K "_law_multiple" "_law_multiple" (defArgs s__law_multiple) (defBody s__law_multiple) (defScope s__law_multiple) [] [] (He.ga K "_law_multiple") fd
  g__law_multiple : mg "_law_multiple" = some (.ref (He.ga K "_law_multiple"))
  d_is_within : ∃ fd, FunD K "is_within" "is_within" (defArgs s_is_within) (defBody s_is_within) (defScope s_is_within) [] [] (He.ga K "is_within") fd
  g_is_within : mg "is_within" = some (.ref (He.ga K "is_within"))
  d_least_period : ∃ fd, FunD K "least_period" "least_period" (defArgs s_least_period) (defBody s_least_period) (defScope s_least_period) [] [] (He.ga K "least_period") fd
  g_least_period : mg "least_period" = some (.ref (He.ga K "least_period"))
  d_flags_in : ∃ fd, FunD K "flags_in" "flags_in" (defArgs s_flags_in) (defBody s_flags_in) (defScope s_flags_in) [] [] (He.ga K "flags_in") fd
  g_flags_in : mg "flags_in" = some (.ref (He.ga K "flags_in"))
  d__law_pick : ∃ fd, FunD K "_law_pick" "_law_pick" (defArgs s__law_pick) (defBody s__law_pick) (defScope s__law_pick) [] [] (He.ga K "_law_pick") fd
  g__law_pick : mg "_law_pick" = some (.ref (He.ga K "_law_pick"))
  d__law_tl_of : ∃ fd, FunD K "_law_tl_of" "_law_tl_of" (defArgs s__law_tl_of) (defBody s__law_tl_of) (defScope s__law_tl_of) [] [] (He.ga K "_law_tl_of") fd
  g__law_tl_of : mg "_law_tl_of" = some (.ref (He.ga K "_law_tl_of"))
  d__law_flags : ∃ fd, FunD K "_law_flags" "_law_flags" (defArgs s__law_flags) (defBody s__law_flags) (defScope s__law_flags) [] [] (He.ga K "_law_flags") fd
  g__law_flags : mg "_law_flags" = some (.ref (He.ga K "_law_flags"))
  d_is_row_within : ∃ fd, FunD K "is_row_within" "is_row_within" (defArgs s_is_row_within) (defBody s_is_row_within) (defScope s_is_row_within) [] [] (He.ga K "is_row_within") fd
  g_is_row_within : mg "is_row_within" = some (.ref (He.ga K "is_row_within"))
  d_tally_of_flags : ∃ fd, FunD K "tally_of_flags" "tally_of_flags" (defArgs s_tally_of_flags) (defBody s_tally_of_flags) (defScope s_tally_of_flags) [] [] (He.ga K "tally_of_flags") fd
  g_tally_of_flags : mg "tally_of_flags" = some (.ref (He.ga K "tally_of_flags"))
  d_require_from : ∃ fd, FunD K "require_from" "require_from" (defArgs s_require_from) (defBody s_require_from) (defScope s_require_from) [] [] (He.ga K "require_from") fd
  g_require_from : mg "require_from" = some (.ref (He.ga K "require_from"))
  d_require_bound : ∃ fd, FunD K "require_bound" "require_bound" (defArgs s_require_bound) (defBody s_require_bound) (defScope s_require_bound) [] [] (He.ga K "require_bound") fd
  g_require_bound : mg "require_bound" = some (.ref (He.ga K "require_bound"))
  d__law_set : ∃ fd, FunD K "_law_set" "_law_set" (defArgs s__law_set) (defBody s__law_set) (defScope s__law_set) [] [] (He.ga K "_law_set") fd
  g__law_set : mg "_law_set" = some (.ref (He.ga K "_law_set"))
  d_is_told_set : ∃ fd, FunD K "is_told_set" "is_told_set" (defArgs s_is_told_set) (defBody s_is_told_set) (defScope s_is_told_set) [] [] (He.ga K "is_told_set") fd
  g_is_told_set : mg "is_told_set" = some (.ref (He.ga K "is_told_set"))
  d_least_in : ∃ fd, FunD K "least_in" "least_in" (defArgs s_least_in) (defBody s_least_in) (defScope s_least_in) [] [] (He.ga K "least_in") fd
  g_least_in : mg "least_in" = some (.ref (He.ga K "least_in"))
  d_either_in : ∃ fd, FunD K "either_in" "either_in" (defArgs s_either_in) (defBody s_either_in) (defScope s_either_in) [] [] (He.ga K "either_in") fd
  g_either_in : mg "either_in" = some (.ref (He.ga K "either_in"))
  d_moved_in : ∃ fd, FunD K "moved_in" "moved_in" (defArgs s_moved_in) (defBody s_moved_in) (defScope s_moved_in) [] [] (He.ga K "moved_in") fd
  g_moved_in : mg "moved_in" = some (.ref (He.ga K "moved_in"))
  d_added_in : ∃ fd, FunD K "added_in" "added_in" (defArgs s_added_in) (defBody s_added_in) (defScope s_added_in) [] [] (He.ga K "added_in") fd
  g_added_in : mg "added_in" = some (.ref (He.ga K "added_in"))
  d_is_tally : ∃ fd, FunD K "is_tally" "is_tally" (defArgs s_is_tally) (defBody s_is_tally) (defScope s_is_tally) [] [] (He.ga K "is_tally") fd
  g_is_tally : mg "is_tally" = some (.ref (He.ga K "is_tally"))
  d_tally_of : ∃ fd, FunD K "tally_of" "tally_of" (defArgs s_tally_of) (defBody s_tally_of) (defScope s_tally_of) [] [] (He.ga K "tally_of") fd
  g_tally_of : mg "tally_of" = some (.ref (He.ga K "tally_of"))
  d_require_tally : ∃ fd, FunD K "require_tally" "require_tally" (defArgs s_require_tally) (defBody s_require_tally) (defScope s_require_tally) [] [] (He.ga K "require_tally") fd
  g_require_tally : mg "require_tally" = some (.ref (He.ga K "require_tally"))
  d_either : ∃ fd, FunD K "either" "either" (defArgs s_either) (defBody s_either) (defScope s_either) [] [] (He.ga K "either") fd
  g_either : mg "either" = some (.ref (He.ga K "either"))
  d_both : ∃ fd, FunD K "both" "both" (defArgs s_both) (defBody s_both) (defScope s_both) [] [] (He.ga K "both") fd
  g_both : mg "both" = some (.ref (He.ga K "both"))
  d_moved : ∃ fd, FunD K "moved" "moved" (defArgs s_moved) (defBody s_moved) (defScope s_moved) [] [] (He.ga K "moved") fd
  g_moved : mg "moved" = some (.ref (He.ga K "moved"))
  d_added : ∃ fd, FunD K "added" "added" (defArgs s_added) (defBody s_added) (defScope s_added) [] [] (He.ga K "added") fd
  g_added : mg "added" = some (.ref (He.ga K "added"))
  d__law_right : ∃ fd, FunD K "_law_right" "_law_right" (defArgs s__law_right) (defBody s__law_right) (defScope s__law_right) [] [] (He.ga K "_law_right") fd
  g__law_right : mg "_law_right" = some (.ref (He.ga K "_law_right"))
  d__law_bounds_right : ∃ fd, FunD K "_law_bounds_right" "_law_bounds_right" (defArgs s__law_bounds_right) (defBody s__law_bounds_right) (defScope s__law_bounds_right) [] [] (He.ga K "_law_bounds_right") fd
  g__law_bounds_right : mg "_law_bounds_right" = some (.ref (He.ga K "_law_bounds_right"))
  d_law : ∃ fd, FunD K "law" "law" (defArgs s_law) (defBody s_law) (defScope s_law) [] [] (He.ga K "law") fd
  g_law : mg "law" = some (.ref (He.ga K "law"))
section
variable {P : Program} {w : World} {K : PySem.W.Frag} {mg : Str → Option Value} {base : Heap} {X : Cx}
theorem sc_InvalidNumber : FnScope ["self", "number"] ["self", "number"] (defScope si_InvalidNumber) := ⟨rfl, rfl, rfl, by decide +kernel, rfl, by decide +kernel, by decide +kernel⟩
theorem fl_InvalidNumber (T : Facts K mg) : FlOk P w K mg base "InvalidNumber" "number" := mkFl (slf := "self") (prm := "number") T.x_InvalidNumber PySem.F.excBase_RuntimeError PySem.F.store_RuntimeError T.g_InvalidNumber T.d_InvalidNumber sc_InvalidNumber (fun _ _ _ _ _ _ us hl => match us, hl with | [_, _], _ => rfl)
theorem pl_InvalidOperation (T : Facts K mg) : PlOk K mg "InvalidOperation" := mkPl T.x_InvalidOperation PySem.F.excBase_ValueError T.g_InvalidOperation
theorem sc_TooMany : FnScope ["self", "limit"] ["self", "limit"] (defScope si_TooMany) := ⟨rfl, rfl, rfl, by decide +kernel, rfl, by decide +kernel, by decide +kernel⟩
theorem fl_TooMany (T : Facts K mg) : FlOk P w K mg base "TooMany" "limit" := mkFl (slf := "self") (prm := "limit") T.x_TooMany PySem.F.excBase_OverflowError PySem.F.store_OverflowError T.g_TooMany T.d_TooMany sc_TooMany (fun _ _ _ _ _ _ us hl => match us, hl with | [_, _], _ => rfl)
theorem sc__law_met : FnScope ["call", "error"] ["call"] (defScope s__law_met) := ⟨rfl, rfl, rfl, by decide +kernel, rfl, by decide +kernel, by decide +kernel⟩
theorem bd__law_met : ∀ (kV doc pm : Value) (an : Option Addr) (cdv ct : Value) (us : List Value), us.length = ["call"].length → bindArgs (PySem.W.fnOf "_law_met" "_law_met" (defArgs s__law_met) (defBody s__law_met) (defScope s__law_met) .none kV doc pm an cdv ct) ⟨us, []⟩ = pure (([("call" : Str)] : List Str).zip us) := fun _ _ _ _ _ _ us hl => match us, hl with | [_], _ => rfl
def cla__law_met (K : PySem.W.Frag) : List Cla := [(Value.ref (He.ga K "TooMany"), some 1, tsFld K "TooMany" "limit" 1)]
theorem know__law_met (T : Facts K mg) (D : Ends) (τ : St) (cls : Value) (d : Option Addr) (G : Hp) (k : Known K hnd__law_met cls d G D.rt) : wAll K 2 (fun _ _ _ _ => False) D (cla__law_met K) cls d τ G := by
  obtain ⟨F, e, z, ok, sm, hz, q⟩ := k
  unfold hnd__law_met at hz
  cases e with
  | fl C f x =>
    obtain ⟨rfl, ok⟩ := ok
    dsimp only at hz
    by_cases h_TooMany : C = "TooMany" ∧ f = "limit"
    · obtain ⟨rfl, rfl⟩ := h_TooMany
      rw [if_pos ⟨rfl, rfl⟩] at hz
      cases hz
      refine ⟨true, T.e_TooMany_TooMany, fun _ a ha hl0 => ?_, fun z => nomatch z⟩
      exact ⟨F, _, ⟨rfl, ok⟩, sm, by show (onSlot τ a (some 1))[1]? = _; unfold onSlot; dsimp only; rw [List.getElem?_set_self (by omega)], fun v dv => q v dv⟩
    rw [if_neg h_TooMany] at hz
    cases hz
  | pl C =>
    obtain ⟨rfl, rfl⟩ := ok
    dsimp only at hz
    cases hz
theorem gv__law_met (T : Facts X.K X.mg) {k : Nat} (hr : Room (k + 1) X.A) (gd : X.A.guards = some []) {g : Addr} {cdv : Value} {q : Str} : LamX.GivesTo X ["call", "error"] "_law_met" (defScope s__law_met) g cdv (defBody s__law_met) "call" q (TTm X.K hnd__law_met "fine") := by
  exact met_gives (l := cla__law_met X.K) (by decide) (by decide) (fun s H => (Clz.as_ ⟨rfl, rfl, .inl T.g_TooMany⟩ (i := 1) rfl rfl (fun a oe cls d pn hz hf => su_fld (xfB_ok (flB_ok T.x_TooMany).xf) (flB_ok T.x_TooMany).no hz hf (i := 1) rfl (Or.inl rfl) rfl rfl rfl) Clz.nil)) (fun D τ cls d G k => know__law_met T D τ cls d G k) fun _ => rfl
theorem sc_is_integer : FnScope ["value"] ["value"] (defScope s_is_integer) := ⟨rfl, rfl, rfl, by decide +kernel, rfl, by decide +kernel, by decide +kernel⟩
theorem ok_is_integer (T : Facts K mg) : OkF P w K mg base 1 "is_integer" ["value"] c_is_integer := by
  have sc := sc_is_integer
  refine mkOk T.d_is_integer T.g_is_integer sc (fun _ _ _ _ _ _ us hl => match us, hl with | [_], _ => rfl) (fun cdv A outer s H E hr => ?_) rfl
  exact
    (jss_one (js_ret (je_and (je_isi (T := "int") kitT_int rfl T.f_isinstance rfl T.f_int PyProof.Rows.boot_int (je_var 0)) (je_and (je_not (je_isi (T := "bool") kitT_bool rfl
      T.f_isinstance rfl T.f_bool PyProof.Rows.boot_bool (je_var 0))) (je_one (je_chain od_lt od_lt (je_un ud_neg (je_gint T.k_LONGEST)) (je_var 0) (je_gint T.k_LONGEST)))))))
theorem sc_has_in : FnScope ["tally", "number", "below", "start", "period", "above"] ["tally", "number"] (defScope s_has_in) := ⟨rfl, rfl, rfl, by decide +kernel, rfl, by decide +kernel, by decide +kernel⟩
theorem ok_has_in (T : Facts K mg) : OkF P w K mg base 1 "has_in" ["tally", "number"] c_has_in := by
  have sc := sc_has_in
  refine mkOk T.d_has_in T.g_has_in sc (fun _ _ _ _ _ _ us hl => match us, hl with | [_, _], _ => rfl) (fun cdv A outer s H E hr => ?_) rfl
  exact
    (jss_cons (js_asgT (je_var 0) (jg_tup rfl (jgs_cons (jg_name 2 sc.nd) (jgs_cons (jg_name 3 sc.nd) (jgs_cons (jg_name 4 sc.nd) (jgs_cons (jg_name 5 sc.nd) jgs_nil))))) (hok :=
      (noEr_T (noErs_cons (noEr_N 2) (noErs_cons (noEr_N 3) (noErs_cons (noEr_N 4) (noErs_cons (noEr_N 5) noErs_nil))))))) (jss_cons (js_if (jt_cmp od_lt (je_var 1) (je_var 3))
      (jss_one (js_ret (je_cmp od_in (je_var 1) (je_var 2)))) jss_nil) (jss_one (js_ret (je_cmp od_in (je_op od_add (je_var 3) (je_op od_mod (je_op od_sub (je_var 1) (je_var 3))
      (je_var 4))) (je_var 5))))))
theorem sc_divisors_of : FnScope ["number", "one"] ["number"] (defScope s_divisors_of) := ⟨rfl, rfl, rfl, by decide +kernel, rfl, by decide +kernel, by decide +kernel⟩
theorem ok_divisors_of (T : Facts K mg) : OkF P w K mg base 1 "divisors_of" ["number"] c_divisors_of := by
  have sc := sc_divisors_of
  refine mkOk T.d_divisors_of T.g_divisors_of sc (fun _ _ _ _ _ _ us hl => match us, hl with | [_], _ => rfl) (fun cdv A outer s H E hr => ?_) rfl
  exact
    (jss_one (js_ret (je_fz (jo_lc [("one", 1)] rfl sc.nd  (ji_rng2 rfl T.f_range je_int (je_op od_add (je_var 0) je_int)) (blkOk_by (by change blkC ["number", "one"] (defScope s_divisors_of) _ _ = true; decide +kernel)) (fun _ _ _ _ _ => (jg_name 1 sc.nd)) (fun _
      _ _ _ _ => (jts_one (jt_cmp (od_eq hr.units) (je_op od_mod (je_var 0) (je_var 1)) je_int))) (fun _ _ _ _ _ => (je_var 1))))))
theorem sc_common_multiple : FnScope ["one", "other", "left", "right"] ["one", "other"] (defScope s_common_multiple) := ⟨rfl, rfl, rfl, by decide +kernel, rfl, by decide +kernel, by decide +kernel⟩
theorem ok_common_multiple (T : Facts K mg) : OkF P w K mg base 1 "common_multiple" ["one", "other"] c_common_multiple := by
  have sc := sc_common_multiple
  refine mkOk T.d_common_multiple T.g_common_multiple sc (fun _ _ _ _ _ _ us hl => match us, hl with | [_, _], _ => rfl) (fun cdv A outer s H E hr => ?_) rfl
  exact
    (jss_cons (js_par2 rfl sc.nd rfl rfl (by decide) rfl rfl (jx_d (je_var 0) (jx_d (je_var 1) jx_nil)) rfl) (jss_cons (js_while 100000 (passes_of rfl) (jt_cmp (od_ne hr.units) (je_var
      3) je_int) (jss_one (js_par2 rfl sc.nd rfl rfl (by decide) rfl rfl (jx_d (je_var 3) (jx_d (je_op od_mod (je_var 2) (je_var 3)) jx_nil)) rfl))) (jss_one (js_ret (je_op od_mul
      (je_op od_div (je_var 0) (je_var 2)) (je_var 1))))))
theorem sc_sums_of : FnScope ["one", "other", "size", "found", "at", "flag", "some", "spot"] ["one", "other"] (defScope s_sums_of) := ⟨rfl, rfl, rfl, by decide +kernel, rfl, by decide +kernel, by decide +kernel⟩
theorem ok_sums_of (T : Facts K mg) : OkF P w K mg base 1 "sums_of" ["one", "other"] c_sums_of := by
  have sc := sc_sums_of
  refine mkOk T.d_sums_of T.g_sums_of sc (fun _ _ _ _ _ _ us hl => match us, hl with | [_, _], _ => rfl) (fun cdv A outer s H E hr => ?_) rfl
  exact
    (jss_cons (js_par2 rfl sc.nd rfl rfl (by decide) rfl rfl (jx_d (je_callB cd_len rfl T.f_len PySem.boot_len (ja_cons (je_var 0) ja_nil)) (jx_o (jo_op oo_rep (je_fz (jo_lst (ja_cons
      je_bl ja_nil))) (je_callB cd_len rfl T.f_len PySem.boot_len (ja_cons (je_var 0) ja_nil))) jx_nil)) rfl) (jss_cons (js_setLcD [("at", 4), ("flag", 5)] rfl sc.nd rfl rfl (sw_true
      rfl rfl rfl (by decide +kernel)) (ji_en rfl T.f_enumerate (je_var 1)) (blkOk_by (by change blkC ["one", "other", "size", "found", "at", "flag", "some", "spot"] (defScope s_sums_of) _ _ = true; decide +kernel)) (fun _ _ _ _ _ => (jg_tup rfl (jgs_cons (jg_name 4 sc.nd) (jgs_cons (jg_name 5 sc.nd) jgs_nil)))) (fun _
      _ _ _ _ => (jts_one (jt_val (je_var 5)))) (fun _ _ _ _ _ => (je_var 4))) (jss_cons (js_for (passes_of rfl) rfl (ji_en rfl T.f_enumerate (je_var 0)) (jg_tup rfl (jgs_cons (jg_name
      4 sc.nd) (jgs_cons (jg_name 5 sc.nd) jgs_nil))) (jss_one (js_if (jt_val (je_var 5)) (jss_one (js_for (passes_of rfl) rfl (ji_seq (je_var 6)) (jg_name 7 sc.nd) (jss_one (js_if
      (jt_cmp od_lt (je_op od_add (je_var 4) (je_var 7)) (je_var 2)) (jss_one (js_setIx 3 je_bl (je_op od_add (je_var 4) (je_var 7)))) jss_nil)))) jss_nil))) (jss_one (js_ret (je_var
      3))))))
theorem sc__law_dice : FnScope ["script", "spot", "cell", "great", "blend"] ["script", "spot"] (defScope s__law_dice) := ⟨rfl, rfl, rfl, by decide +kernel, rfl, by decide +kernel, by decide +kernel⟩
theorem ok__law_dice (T : Facts K mg) : OkF P w K mg base 1 "_law_dice" ["script", "spot"] c__law_dice := by
  have sc := sc__law_dice
  refine mkOk T.d__law_dice T.g__law_dice sc (fun _ _ _ _ _ _ us hl => match us, hl with | [_, _], _ => rfl) (fun cdv A outer s H E hr => ?_) rfl
  exact
    (jss_cons (js_setD sc.nd (je_op od_add (je_op od_mul je_int (je_var 1)) je_int)) (jss_cons (js_if (jt_cmp od_lt (je_var 1) (je_callB cd_len rfl T.f_len PySem.boot_len (ja_cons
      (je_var 0) ja_nil))) (jss_one (js_setD sc.nd (je_ix ixd (je_var 0) (je_var 1)))) jss_nil) (jss_cons (js_setD sc.nd (je_op od_mod (je_callTy cd_int rfl T.f_int
      PyProof.Rows.boot_int (ja_cons (je_callB cd_abs rfl T.f_abs PyProof.Rows.boot_abs (ja_cons (je_var 2) ja_nil)) ja_nil)) (je_op od_pow (je_op od_pow je_int je_int) je_int)))
      (jss_cons (js_setD sc.nd (je_op od_add (je_op od_add (je_op od_add (je_op od_mul (je_op od_mod (je_callTy cd_int rfl T.f_int PyProof.Rows.boot_int (ja_cons (je_var 3) ja_nil))
      je_int) je_int) (je_op od_mul je_int (je_var 1))) (je_op od_mul je_int (je_callTy cd_int rfl T.f_int PyProof.Rows.boot_int (ja_cons (je_cmp od_lt (je_var 2) je_int) ja_nil))))
      je_int)) (jss_one (js_retO (jo_lst (ja_cons (je_callB (cd_max rfl) rfl T.f_max PyProof.Rows.boot_max (ja_cons je_int (ja_cons (je_op od_sub (je_var 3) (je_op od_pow je_int
      je_int)) ja_nil))) (ja_cons (je_op od_mod (je_callTy cd_int rfl T.f_int PyProof.Rows.boot_int (ja_cons (je_var 4) ja_nil)) je_int) (ja_cons je_int ja_nil))))))))))
theorem sc__law_roll : FnScope ["dice", "total", "found", "one", "two"] ["dice", "total"] (defScope s__law_roll) := ⟨rfl, rfl, rfl, by decide +kernel, rfl, by decide +kernel, by decide +kernel⟩
theorem ok__law_roll (T : Facts K mg) : OkF P w K mg base 1 "_law_roll" ["dice", "total"] c__law_roll := by
  have sc := sc__law_roll
  refine mkOk T.d__law_roll T.g__law_roll sc (fun _ _ _ _ _ _ us hl => match us, hl with | [_, _], _ => rfl) (fun cdv A outer s H E hr => ?_) rfl
  exact
    (jss_cons (js_if (jt_cmp od_gt (je_ix ixd (je_var 0) je_int) je_int) (jss_cons (js_setD sc.nd (je_op od_mod (je_callTy cd_int rfl T.f_int PyProof.Rows.boot_int (ja_cons (je_ix ixd
      (je_var 0) je_int) ja_nil)) (je_var 1))) (jss_cons (js_setIx 0 (je_op od_div (je_ix ixd (je_var 0) je_int) (je_var 1)) je_int) (jss_one (js_ret (je_var 2))))) jss_nil) (jss_cons
      (js_setIx 0 (je_op od_add (je_ix ixd (je_var 0) je_int) je_int) je_int) (jss_cons (js_setD sc.nd (je_op od_mod (je_callTy cd_int rfl T.f_int PyProof.Rows.boot_int (ja_cons (je_op
      od_add (je_ix ixd (je_var 0) je_int) (je_op od_mul je_int (je_ix ixd (je_var 0) je_int))) ja_nil)) je_int)) (jss_cons (js_setD sc.nd (je_op od_add (je_op od_mul (je_op od_mod
      (je_callTy cd_int rfl T.f_int PyProof.Rows.boot_int (ja_cons (je_op od_mul (je_var 3) (je_var 3)) ja_nil)) je_int) (je_var 3)) (je_op od_mul je_int (je_ix ixd (je_var 0)
      je_int)))) (jss_cons (js_setD sc.nd (je_op od_mod (je_callTy cd_int rfl T.f_int PyProof.Rows.boot_int (ja_cons (je_var 4) ja_nil)) je_int)) (jss_one (js_ret (je_op od_mod
      (je_callTy cd_int rfl T.f_int PyProof.Rows.boot_int (ja_cons (je_op od_div (je_var 4) je_int) ja_nil)) (je_var 1)))))))))
theorem sc__law_tl_has : FnScope ["tally", "number", "below", "start", "period", "above"] ["tally", "number"] (defScope s__law_tl_has) := ⟨rfl, rfl, rfl, by decide +kernel, rfl, by decide +kernel, by decide +kernel⟩
theorem ok__law_tl_has (T : Facts K mg) : OkF P w K mg base 1 "_law_tl_has" ["tally", "number"] c__law_tl_has := by
  have sc := sc__law_tl_has
  refine mkOk T.d__law_tl_has T.g__law_tl_has sc (fun _ _ _ _ _ _ us hl => match us, hl with | [_, _], _ => rfl) (fun cdv A outer s H E hr => ?_) rfl
  exact
    (jss_cons (js_asgT (je_var 0) (jg_tup rfl (jgs_cons (jg_name 2 sc.nd) (jgs_cons (jg_name 3 sc.nd) (jgs_cons (jg_name 4 sc.nd) (jgs_cons (jg_name 5 sc.nd) jgs_nil))))) (hok :=
      (noEr_T (noErs_cons (noEr_N 2) (noErs_cons (noEr_N 3) (noErs_cons (noEr_N 4) (noErs_cons (noEr_N 5) noErs_nil))))))) (jss_one (js_ret (je_if (jt_cmp od_lt (je_var 1) (je_var 3))
      (je_cmp od_in (je_var 1) (je_var 2)) (je_cmp od_in (je_op od_add (je_var 3) (je_op od_mod (je_op od_sub (je_var 1) (je_var 3)) (je_var 4))) (je_var 5))))))
theorem sc__law_tl_least : FnScope ["flags", "start", "period", "least", "one", "same", "first", "whole", "below", "at"] ["flags", "start", "period"] (defScope s__law_tl_least) := ⟨rfl, rfl, rfl, by decide +kernel, rfl, by decide +kernel, by decide +kernel⟩
theorem ok__law_tl_least (T : Facts K mg) : OkF P w K mg base 1 "_law_tl_least" ["flags", "start", "period"] c__law_tl_least := by
  have sc := sc__law_tl_least
  refine mkOk T.d__law_tl_least T.g__law_tl_least sc (fun _ _ _ _ _ _ us hl => match us, hl with | [_, _, _], _ => rfl) (fun cdv A outer s H E hr => ?_) rfl
  exact
    (jss_cons (js_setD sc.nd je_int) (jss_cons (js_for (passes_of rfl) rfl (ji_rngN rfl T.f_range (je_var 2) je_int (je_un ud_neg je_int)) (jg_name 4 sc.nd) (jss_cons (js_setLcD
      [("at", 9)] rfl sc.nd rfl rfl (sw_true rfl rfl rfl (by decide +kernel)) (ji_rng2 rfl T.f_range (je_var 1) (je_op od_sub (je_op od_add (je_var 1) (je_var 2)) (je_var 4))) (blkOk_by (by change blkC ["flags", "start", "period", "least", "one", "same", "first", "whole", "below", "at"] (defScope s__law_tl_least) _ _ = true; decide +kernel)) (fun
      _ _ _ _ _ => (jg_name 9 sc.nd)) (fun _ _ _ _ _ => (jts_one (jt_cmp (od_ne hr.units) (je_ix ixd (je_var 0) (je_var 9)) (je_ix ixd (je_var 0) (je_op od_add (je_var 9) (je_var
      4)))))) (fun _ _ _ _ _ => (je_var 9))) (jss_one (js_setD sc.nd (je_if (jt_w (jw_and (jt_cmp (od_eq hr.units) (je_op od_mod (je_var 2) (je_var 4)) je_int) (jw_and1 (jt_cmp (od_eq
      hr.units) (je_var 5) (je_fz (jo_lst ja_nil)))))) (je_var 4) (je_var 3)))))) (jss_cons (js_asgT (je_tup (ja_cons (je_var 1) (ja_cons (je_fz (jo_callTy co_list rfl T.f_list
      PyProof.Rows.boot_list (ja_cons (je_var 0) ja_nil))) ja_nil))) (jg_tup rfl (jgs_cons (jg_name 6 sc.nd) (jgs_cons (jg_name 7 sc.nd) jgs_nil))) (hok := (noEr_T (noErs_cons (noEr_N
      6) (noErs_cons (noEr_N 7) noErs_nil))))) (jss_cons (js_while 100000 (passes_of rfl) (jt_w (jw_and (jt_cmp od_gt (je_var 6) je_int) (jw_and1 (jt_cmp (od_eq hr.units) (je_ix ixd
      (je_var 7) (je_op od_sub (je_var 6) je_int)) (je_ix ixd (je_var 7) (je_op od_add (je_op od_sub (je_var 6) je_int) (je_var 3))))))) (jss_one (js_setD sc.nd (je_op od_sub (je_var
      6) je_int)))) (jss_cons (js_setD sc.nd (je_callTy cd_tuple rfl T.f_tuple PyProof.Rows.boot_tuple (ja_cons (je_fz (jo_lc [("at", 9)] rfl sc.nd  (ji_rng1 rfl T.f_range (je_var 6))
      (blkOk_by (by change blkC ["flags", "start", "period", "least", "one", "same", "first", "whole", "below", "at"] (defScope s__law_tl_least) _ _ = true; decide +kernel)) (fun _ _ _ _ _ => (jg_name 9 sc.nd)) (fun _ _ _ _ _ => (jts_one (jt_val (je_ix ixd (je_var 7) (je_var 9))))) (fun _ _ _ _ _ => (je_var 9)))) ja_nil))) (jss_one
      (js_ret (je_tup (ja_cons (je_var 8) (ja_cons (je_var 6) (ja_cons (je_var 3) (ja_cons (je_callTy cd_tuple rfl T.f_tuple PyProof.Rows.boot_tuple (ja_cons (je_fz (jo_lc [("at", 9)]
      rfl sc.nd  (ji_rng2 rfl T.f_range (je_var 6) (je_op od_add (je_var 6) (je_var 3))) (blkOk_by (by change blkC ["flags", "start", "period", "least", "one", "same", "first", "whole", "below", "at"] (defScope s__law_tl_least) _ _ = true; decide +kernel)) (fun _ _ _ _ _ => (jg_name 9 sc.nd)) (fun _ _ _ _ _ => (jts_one (jt_val (je_ix
      ixd (je_var 7) (je_var 9))))) (fun _ _ _ _ _ => (je_var 9)))) ja_nil)) ja_nil))))))))))))
theorem sc__law_multiple : FnScope ["one", "other", "found"] ["one", "other"] (defScope s__law_multiple) := ⟨rfl, rfl, rfl, by decide +kernel, rfl, by decide +kernel, by decide +kernel⟩
theorem ok__law_multiple (T : Facts K mg) : OkF P w K mg base 1 "_law_multiple" ["one", "other"] c__law_multiple := by
  have sc := sc__law_multiple
  refine mkOk T.d__law_multiple T.g__law_multiple sc (fun _ _ _ _ _ _ us hl => match us, hl with | [_, _], _ => rfl) (fun cdv A outer s H E hr => ?_) rfl
  exact
    (jss_cons (js_setD sc.nd (je_var 0)) (jss_cons (js_while 100000 (passes_of rfl) (jt_cmp (od_ne hr.units) (je_op od_mod (je_var 2) (je_var 1)) je_int) (jss_one (js_setD sc.nd (je_op
      od_add (je_var 2) (je_var 0))))) (jss_one (js_ret (je_var 2)))))
theorem sc_is_within : FnScope ["value", "least", "most"] ["value", "least", "most"] (defScope s_is_within) := ⟨rfl, rfl, rfl, by decide +kernel, rfl, by decide +kernel, by decide +kernel⟩
theorem ok_is_within (T : Facts K mg) : OkF P w K mg base 2 "is_within" ["value", "least", "most"] c_is_within := by
  have sc := sc_is_within
  refine mkOk T.d_is_within T.g_is_within sc (fun _ _ _ _ _ _ us hl => match us, hl with | [_, _, _], _ => rfl) (fun cdv A outer s H E hr => ?_) rfl
  exact
    (jss_one (js_ret (je_and (je_callN [false] (ok_is_integer T) (hr.mono (by decide)) (takes_of rfl rfl rfl rfl) (ja_cons (je_var 0) ja_nil) (lenA_cons lenA_nil)) (je_one (je_chain
      od_le od_le (je_var 1) (je_var 0) (je_var 2))))))
theorem sc_least_period : FnScope ["flags", "size", "one"] ["flags"] (defScope s_least_period) := ⟨rfl, rfl, rfl, by decide +kernel, rfl, by decide +kernel, by decide +kernel⟩
theorem ok_least_period (T : Facts K mg) : OkF P w K mg base 2 "least_period" ["flags"] c_least_period := by
  have sc := sc_least_period
  refine mkOk T.d_least_period T.g_least_period sc (fun _ _ _ _ _ _ us hl => match us, hl with | [_], _ => rfl) (fun cdv A outer s H E hr => ?_) rfl
  exact
    (jss_cons (js_setD sc.nd (je_callB cd_len rfl T.f_len PySem.boot_len (ja_cons (je_var 0) ja_nil))) (jss_cons (js_for (passes_of rfl) rfl (ji_seq (je_callN [false] (ok_divisors_of
      T) (hr.mono (by decide)) (takes_of rfl rfl rfl rfl) (ja_cons (je_var 1) ja_nil) (lenA_cons lenA_nil))) (jg_name 2 sc.nd) (jss_one (js_if (jt_cmp (od_eq hr.units) (je_var 0)
      (je_op od_mul (je_sl sld (je_var 0) jp_none (jp_some (je_var 2))) (je_op od_div (je_var 1) (je_var 2)))) (jss_one (js_ret (je_var 2))) jss_nil))) (jss_one (js_ret (je_var 1)))))
theorem sc_flags_in : FnScope ["tally", "size", "number"] ["tally", "size"] (defScope s_flags_in) := ⟨rfl, rfl, rfl, by decide +kernel, rfl, by decide +kernel, by decide +kernel⟩
theorem ok_flags_in (T : Facts K mg) : OkF P w K mg base 2 "flags_in" ["tally", "size"] c_flags_in := by
  have sc := sc_flags_in
  refine mkOk T.d_flags_in T.g_flags_in sc (fun _ _ _ _ _ _ us hl => match us, hl with | [_, _], _ => rfl) (fun cdv A outer s H E hr => ?_) rfl
  exact
    (jss_one (js_ret (je_fz (jo_lc [("number", 2)] rfl sc.nd  (ji_rng1 rfl T.f_range (je_var 1)) (blkOk_by (by change blkC ["tally", "size", "number"] (defScope s_flags_in) _ _ = true; decide +kernel)) (fun _ _ _ _ _ => (jg_name 2 sc.nd)) (fun _ _ _ _ _ => jts_nil) (fun _
      _ _ _ _ => (je_callN [false, false] (ok_has_in T) (hr.mono (by decide)) takes0 (ja_cons (je_var 0) (ja_cons (je_var 2) ja_nil)) (lenA_cons (lenA_cons lenA_nil))))))))
theorem sc__law_pick : FnScope ["dice", "items"] ["dice", "items"] (defScope s__law_pick) := ⟨rfl, rfl, rfl, by decide +kernel, rfl, by decide +kernel, by decide +kernel⟩
theorem ok__law_pick (T : Facts K mg) : OkF P w K mg base 2 "_law_pick" ["dice", "items"] c__law_pick := by
  have sc := sc__law_pick
  refine mkOk T.d__law_pick T.g__law_pick sc (fun _ _ _ _ _ _ us hl => match us, hl with | [_, _], _ => rfl) (fun cdv A outer s H E hr => ?_) rfl
  exact
    (jss_one (js_ret (je_ix ixd (je_var 1) (je_callN [true, false] (ok__law_roll T) (hr.mono (by decide)) (takes_of rfl rfl rfl rfl) (ja_cons (je_var 0) (ja_cons (je_callB cd_len rfl
      T.f_len PySem.boot_len (ja_cons (je_var 1) ja_nil)) ja_nil)) (lenA_cons (lenA_cons lenA_nil))))))
theorem sc__law_tl_of : FnScope ["below", "start", "period", "above", "flags", "at"] ["below", "start", "period", "above"] (defScope s__law_tl_of) := ⟨rfl, rfl, rfl, by decide +kernel, rfl, by decide +kernel, by decide +kernel⟩
theorem ok__law_tl_of (T : Facts K mg) : OkF P w K mg base 2 "_law_tl_of" ["below", "start", "period", "above"] c__law_tl_of := by
  have sc := sc__law_tl_of
  refine mkOk T.d__law_tl_of T.g__law_tl_of sc (fun _ _ _ _ _ _ us hl => match us, hl with | [_, _, _, _], _ => rfl) (fun cdv A outer s H E hr => ?_) rfl
  exact
    (jss_cons (js_setLcD [("at", 5)] rfl sc.nd rfl rfl (sw_true rfl rfl rfl (by decide +kernel)) (ji_rng1 rfl T.f_range (je_op od_add (je_var 1) (je_var 2))) (blkOk_by (by change blkC ["below", "start", "period", "above", "flags", "at"] (defScope s__law_tl_of) _ _ = true; decide +kernel)) (fun _ _ _ _ _ =>
      (jg_name 5 sc.nd)) (fun _ _ _ _ _ => jts_nil) (fun _ _ _ _ _ => (je_callN [false, false] (ok__law_tl_has T) (hr.mono (by decide)) takes0 (ja_cons (je_tup (ja_cons (je_var 0)
      (ja_cons (je_var 1) (ja_cons (je_var 2) (ja_cons (je_var 3) ja_nil))))) (ja_cons (je_var 5) ja_nil)) (lenA_cons (lenA_cons lenA_nil))))) (jss_one (js_ret (je_callN [false, false,
      false] (ok__law_tl_least T) (hr.mono (by decide)) (takes_of rfl rfl rfl rfl) (ja_cons (je_var 4) (ja_cons (je_var 1) (ja_cons (je_var 2) ja_nil))) (lenA_cons (lenA_cons
      (lenA_cons lenA_nil)))))))
theorem sc__law_flags : FnScope ["tally", "size", "at"] ["tally", "size"] (defScope s__law_flags) := ⟨rfl, rfl, rfl, by decide +kernel, rfl, by decide +kernel, by decide +kernel⟩
theorem ok__law_flags (T : Facts K mg) : OkF P w K mg base 2 "_law_flags" ["tally", "size"] c__law_flags := by
  have sc := sc__law_flags
  refine mkOk T.d__law_flags T.g__law_flags sc (fun _ _ _ _ _ _ us hl => match us, hl with | [_, _], _ => rfl) (fun cdv A outer s H E hr => ?_) rfl
  exact
    (jss_one (js_ret (je_fz (jo_lc [("at", 2)] rfl sc.nd  (ji_rng1 rfl T.f_range (je_var 1)) (blkOk_by (by change blkC ["tally", "size", "at"] (defScope s__law_flags) _ _ = true; decide +kernel)) (fun _ _ _ _ _ => (jg_name 2 sc.nd)) (fun _ _ _ _ _ => jts_nil) (fun _ _ _
      _ _ => (je_callN [false, false] (ok__law_tl_has T) (hr.mono (by decide)) takes0 (ja_cons (je_var 0) (ja_cons (je_var 2) ja_nil)) (lenA_cons (lenA_cons lenA_nil))))))))
theorem sc_is_row_within : FnScope ["value", "least", "most", "one", "other"] ["value", "least", "most"] (defScope s_is_row_within) := ⟨rfl, rfl, rfl, by decide +kernel, rfl, by decide +kernel, by decide +kernel⟩
theorem ok_is_row_within (T : Facts K mg) : OkF P w K mg base 3 "is_row_within" ["value", "least", "most"] c_is_row_within := by
  have sc := sc_is_row_within
  refine mkOk T.d_is_row_within T.g_is_row_within sc (fun _ _ _ _ _ _ us hl => match us, hl with | [_, _, _], _ => rfl) (fun cdv A outer s H E hr => ?_) rfl
  exact
    (jss_cons (js_if (jt_w (jw_or (jt_not (jt_val (je_isi (T := "tuple") kitT_tuple rfl T.f_isinstance rfl T.f_tuple PyProof.Rows.boot_tuple (je_var 0)))) (jw_or1 (jt_not (jt_val
      (je_callB (cd_all rfl) rfl T.f_all PyProof.Rows.boot_all (ja_cons (je_fz (jo_lc [("one", 3)] rfl sc.nd  (ji_seq (je_var 0)) (blkOk_by (by change blkC ["value", "least", "most", "one", "other"] (defScope s_is_row_within) _ _ = true; decide +kernel)) (fun _ _ _ _ _ => (jg_name 3 sc.nd))
      (fun _ _ _ _ _ => jts_nil) (fun _ _ _ _ _ => (je_callN [false, false, false] (ok_is_within T) (hr.mono (by decide)) takes0 (ja_cons (je_var 3) (ja_cons (je_var 1) (ja_cons
      (je_var 2) ja_nil))) (lenA_cons (lenA_cons (lenA_cons lenA_nil))))))) ja_nil))))))) (jss_one (js_ret je_bl)) jss_nil) (jss_one (js_ret (je_callB (cd_all rfl) rfl T.f_all
      PyProof.Rows.boot_all (ja_cons (je_fz (jo_lc [("one", 3), ("other", 4)] rfl sc.nd  (ji_seq (je_fz (jo_zipT rfl rfl T.f_list rfl T.f_zip (je_var 0) (je_sl sld (je_var 0) (jp_some
      je_int) jp_none)))) (blkOk_by (by change blkC ["value", "least", "most", "one", "other"] (defScope s_is_row_within) _ _ = true; decide +kernel)) (fun _ _ _ _ _ => (jg_tup rfl (jgs_cons (jg_name 3 sc.nd) (jgs_cons (jg_name 4 sc.nd) jgs_nil)))) (fun _ _ _ _ _ => jts_nil) (fun _ _ _ _ _
      => (je_cmp od_lt (je_var 3) (je_var 4))))) ja_nil)))))
theorem sc_tally_of_flags : FnScope ["flags", "start", "behind", "some", "period", "below", "at", "flag"] ["flags", "start"] (defScope s_tally_of_flags) := ⟨rfl, rfl, rfl, by decide +kernel, rfl, by decide +kernel, by decide +kernel⟩
theorem ok_tally_of_flags (T : Facts K mg) : OkF P w K mg base 3 "tally_of_flags" ["flags", "start"] c_tally_of_flags := by
  have sc := sc_tally_of_flags
  refine mkOk T.d_tally_of_flags T.g_tally_of_flags sc (fun _ _ _ _ _ _ us hl => match us, hl with | [_, _], _ => rfl) (fun cdv A outer s H E hr => ?_) rfl
  exact
    (jss_cons (js_setD sc.nd (je_sl sld (je_var 0) (jp_some (je_var 1)) jp_none)) (jss_cons (js_if (jt_not (jt_val (je_callB (cd_any rfl) rfl T.f_any PyProof.Rows.boot_any (ja_cons
      (je_var 2) ja_nil)))) (jss_cons (js_setLcD [("at", 6), ("flag", 7)] rfl sc.nd rfl rfl (sw_true rfl rfl rfl (by decide +kernel)) (ji_en rfl T.f_enumerate (je_sl sld (je_var 0) jp_none (jp_some
      (je_var 1)))) (blkOk_by (by change blkC ["flags", "start", "behind", "some", "period", "below", "at", "flag"] (defScope s_tally_of_flags) _ _ = true; decide +kernel)) (fun _ _ _ _ _ => (jg_tup rfl (jgs_cons (jg_name 6 sc.nd) (jgs_cons (jg_name 7 sc.nd) jgs_nil)))) (fun _ _ _ _ _ => (jts_one (jt_val (je_var 7))))
      (fun _ _ _ _ _ => (je_var 6))) (jss_one (js_ret (je_tup (ja_cons (je_callTy cd_tuple rfl T.f_tuple PyProof.Rows.boot_tuple (ja_cons (je_var 3) ja_nil)) (ja_cons (je_if (jt_cmp
      (od_ne hr.units) (je_var 3) (je_fz (jo_lst ja_nil))) (je_op od_add (je_ix ixd (je_var 3) (je_un ud_neg je_int)) je_int) je_int) (ja_cons je_int (ja_cons (je_tup ja_nil)
      ja_nil)))))))) jss_nil) (jss_cons (js_setD sc.nd (je_callN [false] (ok_least_period T) (hr.mono (by decide)) (takes_of rfl rfl rfl rfl) (ja_cons (je_var 2) ja_nil) (lenA_cons
      lenA_nil))) (jss_cons (js_while 100000 (passes_of rfl) (jt_w (jw_and (jt_cmp od_gt (je_var 1) je_int) (jw_and1 (jt_cmp (od_eq hr.units) (je_ix ixd (je_var 0) (je_op od_sub
      (je_var 1) je_int)) (je_ix ixd (je_var 0) (je_op od_add (je_op od_sub (je_var 1) je_int) (je_var 4))))))) (jss_one (js_setD sc.nd (je_op od_sub (je_var 1) je_int)))) (jss_cons
      (js_setD sc.nd (je_callTy cd_tuple rfl T.f_tuple PyProof.Rows.boot_tuple (ja_cons (je_fz (jo_lc [("at", 6)] rfl sc.nd  (ji_rng1 rfl T.f_range (je_var 1)) (blkOk_by (by change blkC ["flags", "start", "behind", "some", "period", "below", "at", "flag"] (defScope s_tally_of_flags) _ _ = true; decide +kernel)) (fun _
      _ _ _ _ => (jg_name 6 sc.nd)) (fun _ _ _ _ _ => (jts_one (jt_val (je_ix ixd (je_var 0) (je_var 6))))) (fun _ _ _ _ _ => (je_var 6)))) ja_nil))) (jss_one (js_ret (je_tup (ja_cons
      (je_var 5) (ja_cons (je_var 1) (ja_cons (je_var 4) (ja_cons (je_callTy cd_tuple rfl T.f_tuple PyProof.Rows.boot_tuple (ja_cons (je_fz (jo_lc [("at", 6)] rfl sc.nd  (ji_rng2 rfl
      T.f_range (je_var 1) (je_op od_add (je_var 1) (je_var 4))) (blkOk_by (by change blkC ["flags", "start", "behind", "some", "period", "below", "at", "flag"] (defScope s_tally_of_flags) _ _ = true; decide +kernel)) (fun _ _ _ _ _ => (jg_name 6 sc.nd)) (fun _ _ _ _ _ => (jts_one (jt_val (je_ix ixd (je_var 0) (je_var
      6))))) (fun _ _ _ _ _ => (je_var 6)))) ja_nil)) ja_nil))))))))))))
theorem sc_require_from : FnScope ["number", "least", "most"] ["number", "least", "most"] (defScope s_require_from) := ⟨rfl, rfl, rfl, by decide +kernel, rfl, by decide +kernel, by decide +kernel⟩
theorem ok_require_from (T : Facts K mg) : OkF P w K mg base 3 "require_from" ["number", "least", "most"] c_require_from := by
  have sc := sc_require_from
  refine mkOk T.d_require_from T.g_require_from sc (fun _ _ _ _ _ _ us hl => match us, hl with | [_, _, _], _ => rfl) (fun cdv A outer s H E hr => ?_) rfl
  exact
    (jss_one (js_if (jt_not (jt_val (je_callN [false, false, false] (ok_is_within T) (hr.mono (by decide)) (takes_of rfl rfl rfl rfl) (ja_cons (je_var 0) (ja_cons (je_var 1) (ja_cons
      (je_var 2) ja_nil))) (lenA_cons (lenA_cons (lenA_cons lenA_nil)))))) (jss_one (js_raiseF (fl_InvalidNumber T) (hr.mono (by decide)) rfl (takes_of rfl rfl rfl rfl) (je_var 0)))
      jss_nil))
theorem sc_require_bound : FnScope ["number"] ["number"] (defScope s_require_bound) := ⟨rfl, rfl, rfl, by decide +kernel, rfl, by decide +kernel, by decide +kernel⟩
theorem ok_require_bound (T : Facts K mg) : OkF P w K mg base 3 "require_bound" ["number"] c_require_bound := by
  have sc := sc_require_bound
  refine mkOk T.d_require_bound T.g_require_bound sc (fun _ _ _ _ _ _ us hl => match us, hl with | [_], _ => rfl) (fun cdv A outer s H E hr => ?_) rfl
  exact
    (jss_one (js_if (jt_cmp od_gt (je_var 0) (je_gint T.k_MAX_BOUND)) (jss_one (js_raiseF (fl_TooMany T) (hr.mono (by decide)) rfl (takes_of rfl rfl rfl rfl) (je_gint T.k_MAX_BOUND)))
      jss_nil))
theorem sc__law_set : FnScope ["dice", "most", "start", "period", "below", "above", "at"] ["dice", "most"] (defScope s__law_set) := ⟨rfl, rfl, rfl, by decide +kernel, rfl, by decide +kernel, by decide +kernel⟩
theorem ok__law_set (T : Facts K mg) : OkF P w K mg base 3 "_law_set" ["dice", "most"] c__law_set := by
  have sc := sc__law_set
  refine mkOk T.d__law_set T.g__law_set sc (fun _ _ _ _ _ _ us hl => match us, hl with | [_, _], _ => rfl) (fun cdv A outer s H E hr => ?_) rfl
  exact
    (jss_cons (js_par2 rfl sc.nd rfl rfl (by decide) rfl rfl (jx_d (je_callN [true, false] (ok__law_roll T) (hr.mono (by decide)) (takes_of rfl rfl rfl rfl) (ja_cons (je_var 0)
      (ja_cons je_int ja_nil)) (lenA_cons (lenA_cons lenA_nil))) (jx_d (je_op od_add je_int (je_callN [true, false] (ok__law_roll T) (hr.mono (by decide)) (takes_of rfl rfl rfl rfl)
      (ja_cons (je_var 0) (ja_cons (je_var 1) ja_nil)) (lenA_cons (lenA_cons lenA_nil)))) jx_nil)) rfl) (jss_cons (js_setD sc.nd (je_callTy cd_tuple rfl T.f_tuple
      PyProof.Rows.boot_tuple (ja_cons (je_fz (jo_lc [("at", 6)] rfl sc.nd  (ji_rng1 rfl T.f_range (je_var 2)) (blkOk_by (by change blkC ["dice", "most", "start", "period", "below", "above", "at"] (defScope s__law_set) _ _ = true; decide +kernel)) (fun _ _ _ _ _ => (jg_name 6 sc.nd)) (fun _ _ _ _ _ =>
      (jts_one (jt_cmp (od_eq hr.units) (je_callN [true, false] (ok__law_roll T) (hr.mono (by decide)) takes0 (ja_cons (je_var 0) (ja_cons je_int ja_nil)) (lenA_cons (lenA_cons
      lenA_nil))) je_int))) (fun _ _ _ _ _ => (je_var 6)))) ja_nil))) (jss_cons (js_setD sc.nd (je_callTy cd_tuple rfl T.f_tuple PyProof.Rows.boot_tuple (ja_cons (je_fz (jo_lc [("at",
      6)] rfl sc.nd  (ji_rng2 rfl T.f_range (je_var 2) (je_op od_add (je_var 2) (je_var 3))) (blkOk_by (by change blkC ["dice", "most", "start", "period", "below", "above", "at"] (defScope s__law_set) _ _ = true; decide +kernel)) (fun _ _ _ _ _ => (jg_name 6 sc.nd)) (fun _ _ _ _ _ => (jts_one (jt_cmp
      (od_eq hr.units) (je_callN [true, false] (ok__law_roll T) (hr.mono (by decide)) takes0 (ja_cons (je_var 0) (ja_cons je_int ja_nil)) (lenA_cons (lenA_cons lenA_nil))) je_int)))
      (fun _ _ _ _ _ => (je_var 6)))) ja_nil))) (jss_one (js_ret (je_callN [false, false, false, false] (ok__law_tl_of T) (hr.mono (by decide)) (takes_of rfl rfl rfl rfl) (ja_cons
      (je_var 4) (ja_cons (je_var 2) (ja_cons (je_var 3) (ja_cons (je_var 5) ja_nil)))) (lenA_cons (lenA_cons (lenA_cons (lenA_cons lenA_nil))))))))))
theorem sc_is_told_set : FnScope ["below", "start", "period", "above"] ["below", "start", "period", "above"] (defScope s_is_told_set) := ⟨rfl, rfl, rfl, by decide +kernel, rfl, by decide +kernel, by decide +kernel⟩
theorem ok_is_told_set (T : Facts K mg) : OkF P w K mg base 4 "is_told_set" ["below", "start", "period", "above"] c_is_told_set := by
  have sc := sc_is_told_set
  refine mkOk T.d_is_told_set T.g_is_told_set sc (fun _ _ _ _ _ _ us hl => match us, hl with | [_, _, _, _], _ => rfl) (fun cdv A outer s H E hr => ?_) rfl
  exact
    (jss_cons (js_if (jt_w (jw_or (jt_not (jt_val (je_callN [false, false, false] (ok_is_within T) (hr.mono (by decide)) (takes_of rfl rfl rfl rfl) (ja_cons (je_var 1) (ja_cons je_int
      (ja_cons (je_gint T.k_MAX_BOUND) ja_nil))) (lenA_cons (lenA_cons (lenA_cons lenA_nil)))))) (jw_or1 (jt_not (jt_val (je_callN [false, false, false] (ok_is_within T) (hr.mono (by
      decide)) (takes_of rfl rfl rfl rfl) (ja_cons (je_var 2) (ja_cons je_int (ja_cons (je_gint T.k_MAX_BOUND) ja_nil))) (lenA_cons (lenA_cons (lenA_cons lenA_nil))))))))) (jss_one
      (js_ret je_bl)) jss_nil) (jss_one (js_ret (je_and (je_callN [false, false, false] (ok_is_row_within T) (hr.mono (by decide)) (takes_of rfl rfl rfl rfl) (ja_cons (je_var 0)
      (ja_cons je_int (ja_cons (je_op od_sub (je_var 1) je_int) ja_nil))) (lenA_cons (lenA_cons (lenA_cons lenA_nil)))) (je_one (je_callN [false, false, false] (ok_is_row_within T)
      (hr.mono (by decide)) (takes_of rfl rfl rfl rfl) (ja_cons (je_var 3) (ja_cons (je_var 1) (ja_cons (je_op od_sub (je_op od_add (je_var 1) (je_var 2)) je_int) ja_nil))) (lenA_cons
      (lenA_cons (lenA_cons lenA_nil)))))))))
theorem sc_least_in : FnScope ["tally", "start", "period"] ["tally"] (defScope s_least_in) := ⟨rfl, rfl, rfl, by decide +kernel, rfl, by decide +kernel, by decide +kernel⟩
theorem ok_least_in (T : Facts K mg) : OkF P w K mg base 4 "least_in" ["tally"] c_least_in := by
  have sc := sc_least_in
  refine mkOk T.d_least_in T.g_least_in sc (fun _ _ _ _ _ _ us hl => match us, hl with | [_], _ => rfl) (fun cdv A outer s H E hr => ?_) rfl
  exact
    (jss_cons (js_par2 rfl sc.nd rfl rfl (by decide) rfl rfl (jx_d (je_ix ixd (je_var 0) je_int) (jx_d (je_ix ixd (je_var 0) je_int) jx_nil)) rfl) (jss_one (js_ret (je_callN [false,
      false] (ok_tally_of_flags T) (hr.mono (by decide)) (takes_of rfl rfl rfl rfl) (ja_cons (je_callN [false, false] (ok_flags_in T) (hr.mono (by decide)) (takes_of rfl rfl rfl rfl)
      (ja_cons (je_var 0) (ja_cons (je_op od_add (je_var 1) (je_var 2)) ja_nil)) (lenA_cons (lenA_cons lenA_nil))) (ja_cons (je_var 1) ja_nil)) (lenA_cons (lenA_cons lenA_nil))))))
theorem sc_either_in : FnScope ["one", "other", "start", "period", "flags", "left", "right"] ["one", "other"] (defScope s_either_in) := ⟨rfl, rfl, rfl, by decide +kernel, rfl, by decide +kernel, by decide +kernel⟩
theorem ok_either_in (T : Facts K mg) : OkF P w K mg base 4 "either_in" ["one", "other"] c_either_in := by
  have sc := sc_either_in
  refine mkOk T.d_either_in T.g_either_in sc (fun _ _ _ _ _ _ us hl => match us, hl with | [_, _], _ => rfl) (fun cdv A outer s H E hr => ?_) rfl
  exact
    (jss_cons (js_par2 rfl sc.nd rfl rfl (by decide) rfl rfl (jx_d (je_callB (cd_max rfl) rfl T.f_max PyProof.Rows.boot_max (ja_cons (je_ix ixd (je_var 0) je_int) (ja_cons (je_ix ixd
      (je_var 1) je_int) ja_nil))) (jx_d (je_callN [false, false] (ok_common_multiple T) (hr.mono (by decide)) (takes_of rfl rfl rfl rfl) (ja_cons (je_ix ixd (je_var 0) je_int)
      (ja_cons (je_ix ixd (je_var 1) je_int) ja_nil)) (lenA_cons (lenA_cons lenA_nil))) jx_nil)) rfl) (jss_cons (js_expr (je_callN [false] (ok_require_bound T) (hr.mono (by decide))
      (takes_of rfl rfl rfl rfl) (ja_cons (je_op od_add (je_var 2) (je_var 3)) ja_nil) (lenA_cons lenA_nil))) (jss_cons (js_setLcD [("left", 5), ("right", 6)] rfl sc.nd rfl rfl
      (sw_true rfl rfl rfl (by decide +kernel)) (ji_zp rfl T.f_zip (je_callN [false, false] (ok_flags_in T) (hr.mono (by decide)) (takes_of rfl rfl rfl rfl) (ja_cons (je_var 0) (ja_cons (je_op
      od_add (je_var 2) (je_var 3)) ja_nil)) (lenA_cons (lenA_cons lenA_nil))) (je_callN [false, false] (ok_flags_in T) (hr.mono (by decide)) (takes_of rfl rfl rfl rfl) (ja_cons
      (je_var 1) (ja_cons (je_op od_add (je_var 2) (je_var 3)) ja_nil)) (lenA_cons (lenA_cons lenA_nil)))) (blkOk_by (by change blkC ["one", "other", "start", "period", "flags", "left", "right"] (defScope s_either_in) _ _ = true; decide +kernel)) (fun _ _ _ _ _ => (jg_tup rfl (jgs_cons (jg_name 5 sc.nd)
      (jgs_cons (jg_name 6 sc.nd) jgs_nil)))) (fun _ _ _ _ _ => jts_nil) (fun _ _ _ _ _ => (je_or (je_var 5) (je_one (je_var 6))))) (jss_one (js_ret (je_callN [false, false]
      (ok_tally_of_flags T) (hr.mono (by decide)) (takes_of rfl rfl rfl rfl) (ja_cons (je_var 4) (ja_cons (je_var 2) ja_nil)) (lenA_cons (lenA_cons lenA_nil))))))))
theorem sc_moved_in : FnScope ["tally", "number", "start", "period"] ["tally", "number"] (defScope s_moved_in) := ⟨rfl, rfl, rfl, by decide +kernel, rfl, by decide +kernel, by decide +kernel⟩
theorem ok_moved_in (T : Facts K mg) : OkF P w K mg base 4 "moved_in" ["tally", "number"] c_moved_in := by
  have sc := sc_moved_in
  refine mkOk T.d_moved_in T.g_moved_in sc (fun _ _ _ _ _ _ us hl => match us, hl with | [_, _], _ => rfl) (fun cdv A outer s H E hr => ?_) rfl
  exact
    (jss_cons (js_par2 rfl sc.nd rfl rfl (by decide) rfl rfl (jx_d (je_op od_add (je_ix ixd (je_var 0) je_int) (je_var 1)) (jx_d (je_ix ixd (je_var 0) je_int) jx_nil)) rfl) (jss_cons
      (js_expr (je_callN [false] (ok_require_bound T) (hr.mono (by decide)) (takes_of rfl rfl rfl rfl) (ja_cons (je_op od_add (je_var 2) (je_var 3)) ja_nil) (lenA_cons lenA_nil)))
      (jss_one (js_ret (je_callN [false, false] (ok_tally_of_flags T) (hr.mono (by decide)) (takes_of rfl rfl rfl rfl) (ja_cons (je_op od_add (je_op od_mul (je_fz (jo_lst (ja_cons
      je_bl ja_nil))) (je_var 1)) (je_callN [false, false] (ok_flags_in T) (hr.mono (by decide)) (takes_of rfl rfl rfl rfl) (ja_cons (je_var 0) (ja_cons (je_op od_add (je_ix ixd
      (je_var 0) je_int) (je_var 3)) ja_nil)) (lenA_cons (lenA_cons lenA_nil)))) (ja_cons (je_var 2) ja_nil)) (lenA_cons (lenA_cons lenA_nil)))))))
theorem sc_added_in : FnScope ["one", "other", "period", "start"] ["one", "other"] (defScope s_added_in) := ⟨rfl, rfl, rfl, by decide +kernel, rfl, by decide +kernel, by decide +kernel⟩
theorem ok_added_in (T : Facts K mg) : OkF P w K mg base 4 "added_in" ["one", "other"] c_added_in := by
  have sc := sc_added_in
  refine mkOk T.d_added_in T.g_added_in sc (fun _ _ _ _ _ _ us hl => match us, hl with | [_, _], _ => rfl) (fun cdv A outer s H E hr => ?_) rfl
  exact
    (jss_cons (js_setD sc.nd (je_callN [false, false] (ok_common_multiple T) (hr.mono (by decide)) (takes_of rfl rfl rfl rfl) (ja_cons (je_ix ixd (je_var 0) je_int) (ja_cons (je_ix ixd
      (je_var 1) je_int) ja_nil)) (lenA_cons (lenA_cons lenA_nil)))) (jss_cons (js_setD sc.nd (je_op od_add (je_op od_add (je_ix ixd (je_var 0) je_int) (je_ix ixd (je_var 1) je_int))
      (je_var 2))) (jss_cons (js_expr (je_callN [false] (ok_require_bound T) (hr.mono (by decide)) (takes_of rfl rfl rfl rfl) (ja_cons (je_op od_add (je_var 3) (je_var 2)) ja_nil)
      (lenA_cons lenA_nil))) (jss_one (js_ret (je_callN [false, false] (ok_tally_of_flags T) (hr.mono (by decide)) (takes_of rfl rfl rfl rfl) (ja_cons (je_callN [false, false]
      (ok_sums_of T) (hr.mono (by decide)) (takes_of rfl rfl rfl rfl) (ja_cons (je_callN [false, false] (ok_flags_in T) (hr.mono (by decide)) (takes_of rfl rfl rfl rfl) (ja_cons
      (je_var 0) (ja_cons (je_op od_add (je_var 3) (je_var 2)) ja_nil)) (lenA_cons (lenA_cons lenA_nil))) (ja_cons (je_callN [false, false] (ok_flags_in T) (hr.mono (by decide))
      (takes_of rfl rfl rfl rfl) (ja_cons (je_var 1) (ja_cons (je_op od_add (je_var 3) (je_var 2)) ja_nil)) (lenA_cons (lenA_cons lenA_nil))) ja_nil)) (lenA_cons (lenA_cons lenA_nil)))
      (ja_cons (je_var 3) ja_nil)) (lenA_cons (lenA_cons lenA_nil))))))))
theorem sc_is_tally : FnScope ["value"] ["value"] (defScope s_is_tally) := ⟨rfl, rfl, rfl, by decide +kernel, rfl, by decide +kernel, by decide +kernel⟩
theorem ok_is_tally (T : Facts K mg) : OkF P w K mg base 5 "is_tally" ["value"] c_is_tally := by
  have sc := sc_is_tally
  refine mkOk T.d_is_tally T.g_is_tally sc (fun _ _ _ _ _ _ us hl => match us, hl with | [_], _ => rfl) (fun cdv A outer s H E hr => ?_) rfl
  exact
    (jss_cons (js_if (jt_w (jw_or (jt_not (jt_val (je_isi (T := "tuple") kitT_tuple rfl T.f_isinstance rfl T.f_tuple PyProof.Rows.boot_tuple (je_var 0)))) (jw_or (jt_cmp (od_ne
      hr.units) (je_callB cd_len rfl T.f_len PySem.boot_len (ja_cons (je_var 0) ja_nil)) je_int) (jw_or1 (jt_not (jt_val (je_callN [false, false, false, false] (ok_is_told_set T)
      (hr.mono (by decide)) (takes_of rfl rfl rfl rfl) (ja_cons (je_ix ixd (je_var 0) je_int) (ja_cons (je_ix ixd (je_var 0) je_int) (ja_cons (je_ix ixd (je_var 0) je_int) (ja_cons
      (je_ix ixd (je_var 0) je_int) ja_nil)))) (lenA_cons (lenA_cons (lenA_cons (lenA_cons lenA_nil))))))))))) (jss_one (js_ret je_bl)) jss_nil) (jss_one (js_ret (je_and (je_cmp od_le
      (je_op od_add (je_ix ixd (je_var 0) je_int) (je_ix ixd (je_var 0) je_int)) (je_gint T.k_MAX_BOUND)) (je_one (je_cmp (od_eq hr.units) (je_callN [false] (ok_least_in T) (hr.mono
      (by decide)) (takes_of rfl rfl rfl rfl) (ja_cons (je_var 0) ja_nil) (lenA_cons lenA_nil)) (je_var 0)))))))
theorem sc_tally_of : FnScope ["below", "start", "period", "above"] ["below", "start", "period", "above"] (defScope s_tally_of) := ⟨rfl, rfl, rfl, by decide +kernel, rfl, by decide +kernel, by decide +kernel⟩
theorem ok_tally_of (T : Facts K mg) : OkF P w K mg base 5 "tally_of" ["below", "start", "period", "above"] c_tally_of := by
  have sc := sc_tally_of
  refine mkOk T.d_tally_of T.g_tally_of sc (fun _ _ _ _ _ _ us hl => match us, hl with | [_, _, _, _], _ => rfl) (fun cdv A outer s H E hr => ?_) rfl
  exact
    (jss_cons (js_if (jt_w (jw_or (jt_not (jt_val (je_callN [false, false, false, false] (ok_is_told_set T) (hr.mono (by decide)) (takes_of rfl rfl rfl rfl) (ja_cons (je_var 0)
      (ja_cons (je_var 1) (ja_cons (je_var 2) (ja_cons (je_var 3) ja_nil)))) (lenA_cons (lenA_cons (lenA_cons (lenA_cons lenA_nil))))))) (jw_or1 (jt_cmp od_gt (je_op od_add (je_var 1)
      (je_var 2)) (je_gint T.k_MAX_BOUND))))) (jss_one (js_raiseP (pl_InvalidOperation T) rfl (takes_of rfl rfl rfl rfl))) jss_nil) (jss_one (js_ret (je_callN [false] (ok_least_in T)
      (hr.mono (by decide)) (takes_of rfl rfl rfl rfl) (ja_cons (je_tup (ja_cons (je_var 0) (ja_cons (je_var 1) (ja_cons (je_var 2) (ja_cons (je_var 3) ja_nil))))) ja_nil) (lenA_cons
      lenA_nil)))))
theorem sc_require_tally : FnScope ["value"] ["value"] (defScope s_require_tally) := ⟨rfl, rfl, rfl, by decide +kernel, rfl, by decide +kernel, by decide +kernel⟩
theorem ok_require_tally (T : Facts K mg) : OkF P w K mg base 6 "require_tally" ["value"] c_require_tally := by
  have sc := sc_require_tally
  refine mkOk T.d_require_tally T.g_require_tally sc (fun _ _ _ _ _ _ us hl => match us, hl with | [_], _ => rfl) (fun cdv A outer s H E hr => ?_) rfl
  exact
    (jss_one (js_if (jt_not (jt_val (je_callN [false] (ok_is_tally T) (hr.mono (by decide)) (takes_of rfl rfl rfl rfl) (ja_cons (je_var 0) ja_nil) (lenA_cons lenA_nil)))) (jss_one
      (js_raiseP (pl_InvalidOperation T) rfl (takes_of rfl rfl rfl rfl))) jss_nil))
theorem sc_either : FnScope ["one", "other"] ["one", "other"] (defScope s_either) := ⟨rfl, rfl, rfl, by decide +kernel, rfl, by decide +kernel, by decide +kernel⟩
theorem ok_either (T : Facts K mg) : OkF P w K mg base 7 "either" ["one", "other"] c_either := by
  have sc := sc_either
  refine mkOk T.d_either T.g_either sc (fun _ _ _ _ _ _ us hl => match us, hl with | [_, _], _ => rfl) (fun cdv A outer s H E hr => ?_) rfl
  exact
    (jss_cons (js_expr (je_callN [false] (ok_require_tally T) (hr.mono (by decide)) (takes_of rfl rfl rfl rfl) (ja_cons (je_var 0) ja_nil) (lenA_cons lenA_nil))) (jss_cons (js_expr
      (je_callN [false] (ok_require_tally T) (hr.mono (by decide)) (takes_of rfl rfl rfl rfl) (ja_cons (je_var 1) ja_nil) (lenA_cons lenA_nil))) (jss_one (js_ret (je_callN [false,
      false] (ok_either_in T) (hr.mono (by decide)) (takes_of rfl rfl rfl rfl) (ja_cons (je_var 0) (ja_cons (je_var 1) ja_nil)) (lenA_cons (lenA_cons lenA_nil)))))))
theorem sc_both : FnScope ["one", "other", "start", "period", "flags", "left", "right"] ["one", "other"] (defScope s_both) := ⟨rfl, rfl, rfl, by decide +kernel, rfl, by decide +kernel, by decide +kernel⟩
theorem ok_both (T : Facts K mg) : OkF P w K mg base 7 "both" ["one", "other"] c_both := by
  have sc := sc_both
  refine mkOk T.d_both T.g_both sc (fun _ _ _ _ _ _ us hl => match us, hl with | [_, _], _ => rfl) (fun cdv A outer s H E hr => ?_) rfl
  exact
    (jss_cons (js_expr (je_callN [false] (ok_require_tally T) (hr.mono (by decide)) (takes_of rfl rfl rfl rfl) (ja_cons (je_var 0) ja_nil) (lenA_cons lenA_nil))) (jss_cons (js_expr
      (je_callN [false] (ok_require_tally T) (hr.mono (by decide)) (takes_of rfl rfl rfl rfl) (ja_cons (je_var 1) ja_nil) (lenA_cons lenA_nil))) (jss_cons (js_par2 rfl sc.nd rfl rfl
      (by decide) rfl rfl (jx_d (je_callB (cd_max rfl) rfl T.f_max PyProof.Rows.boot_max (ja_cons (je_ix ixd (je_var 0) je_int) (ja_cons (je_ix ixd (je_var 1) je_int) ja_nil))) (jx_d
      (je_callN [false, false] (ok_common_multiple T) (hr.mono (by decide)) (takes_of rfl rfl rfl rfl) (ja_cons (je_ix ixd (je_var 0) je_int) (ja_cons (je_ix ixd (je_var 1) je_int)
      ja_nil)) (lenA_cons (lenA_cons lenA_nil))) jx_nil)) rfl) (jss_cons (js_expr (je_callN [false] (ok_require_bound T) (hr.mono (by decide)) (takes_of rfl rfl rfl rfl) (ja_cons
      (je_op od_add (je_var 2) (je_var 3)) ja_nil) (lenA_cons lenA_nil))) (jss_cons (js_setLcD [("left", 5), ("right", 6)] rfl sc.nd rfl rfl (sw_true rfl rfl rfl (by decide +kernel)) (ji_zp rfl
      T.f_zip (je_callN [false, false] (ok_flags_in T) (hr.mono (by decide)) (takes_of rfl rfl rfl rfl) (ja_cons (je_var 0) (ja_cons (je_op od_add (je_var 2) (je_var 3)) ja_nil))
      (lenA_cons (lenA_cons lenA_nil))) (je_callN [false, false] (ok_flags_in T) (hr.mono (by decide)) (takes_of rfl rfl rfl rfl) (ja_cons (je_var 1) (ja_cons (je_op od_add (je_var 2)
      (je_var 3)) ja_nil)) (lenA_cons (lenA_cons lenA_nil)))) (blkOk_by (by change blkC ["one", "other", "start", "period", "flags", "left", "right"] (defScope s_both) _ _ = true; decide +kernel)) (fun _ _ _ _ _ => (jg_tup rfl (jgs_cons (jg_name 5 sc.nd) (jgs_cons (jg_name 6 sc.nd) jgs_nil)))) (fun _
      _ _ _ _ => jts_nil) (fun _ _ _ _ _ => (je_and (je_var 5) (je_one (je_var 6))))) (jss_one (js_ret (je_callN [false, false] (ok_tally_of_flags T) (hr.mono (by decide)) (takes_of
      rfl rfl rfl rfl) (ja_cons (je_var 4) (ja_cons (je_var 2) ja_nil)) (lenA_cons (lenA_cons lenA_nil))))))))))
theorem sc_moved : FnScope ["tally", "number"] ["tally", "number"] (defScope s_moved) := ⟨rfl, rfl, rfl, by decide +kernel, rfl, by decide +kernel, by decide +kernel⟩
theorem ok_moved (T : Facts K mg) : OkF P w K mg base 7 "moved" ["tally", "number"] c_moved := by
  have sc := sc_moved
  refine mkOk T.d_moved T.g_moved sc (fun _ _ _ _ _ _ us hl => match us, hl with | [_, _], _ => rfl) (fun cdv A outer s H E hr => ?_) rfl
  exact
    (jss_cons (js_expr (je_callN [false] (ok_require_tally T) (hr.mono (by decide)) (takes_of rfl rfl rfl rfl) (ja_cons (je_var 0) ja_nil) (lenA_cons lenA_nil))) (jss_cons (js_expr
      (je_callN [false, false, false] (ok_require_from T) (hr.mono (by decide)) (takes_of rfl rfl rfl rfl) (ja_cons (je_var 1) (ja_cons je_int (ja_cons (je_gint T.k_MAX_MEMBERS)
      ja_nil))) (lenA_cons (lenA_cons (lenA_cons lenA_nil))))) (jss_one (js_ret (je_callN [false, false] (ok_moved_in T) (hr.mono (by decide)) (takes_of rfl rfl rfl rfl) (ja_cons
      (je_var 0) (ja_cons (je_var 1) ja_nil)) (lenA_cons (lenA_cons lenA_nil)))))))
theorem sc_added : FnScope ["one", "other"] ["one", "other"] (defScope s_added) := ⟨rfl, rfl, rfl, by decide +kernel, rfl, by decide +kernel, by decide +kernel⟩
theorem ok_added (T : Facts K mg) : OkF P w K mg base 7 "added" ["one", "other"] c_added := by
  have sc := sc_added
  refine mkOk T.d_added T.g_added sc (fun _ _ _ _ _ _ us hl => match us, hl with | [_, _], _ => rfl) (fun cdv A outer s H E hr => ?_) rfl
  exact
    (jss_cons (js_expr (je_callN [false] (ok_require_tally T) (hr.mono (by decide)) (takes_of rfl rfl rfl rfl) (ja_cons (je_var 0) ja_nil) (lenA_cons lenA_nil))) (jss_cons (js_expr
      (je_callN [false] (ok_require_tally T) (hr.mono (by decide)) (takes_of rfl rfl rfl rfl) (ja_cons (je_var 1) ja_nil) (lenA_cons lenA_nil))) (jss_one (js_ret (je_callN [false,
      false] (ok_added_in T) (hr.mono (by decide)) (takes_of rfl rfl rfl rfl) (ja_cons (je_var 0) (ja_cons (je_var 1) ja_nil)) (lenA_cons (lenA_cons lenA_nil)))))))
theorem sc__law_right : FnScope ["dice", "one", "other", "period", "start", "size", "left", "right", "flags", "sums", "at", "spot", "number", "above", "first", "last"] ["dice"] (defScope s__law_right) := ⟨rfl, rfl, rfl, by decide +kernel, rfl, by decide +kernel, by decide +kernel⟩
theorem ok__law_right (T : Facts K mg) : OkF P w K mg base 8 "_law_right" ["dice"] c__law_right := by
  have sc := sc__law_right
  refine mkOk T.d__law_right T.g__law_right sc (fun _ _ _ _ _ _ us hl => match us, hl with | [_], _ => rfl) (fun cdv A outer s H E hr => ?_) rfl
  exact
    (jss_cons (js_par2 rfl sc.nd rfl rfl (by decide) rfl rfl (jx_d (je_callN [true, false] (ok__law_set T) (hr.mono (by decide)) (takes_of rfl rfl rfl rfl) (ja_cons (je_var 0) (ja_cons
      je_int ja_nil)) (lenA_cons (lenA_cons lenA_nil))) (jx_d (je_callN [true, false] (ok__law_set T) (hr.mono (by decide)) (takes_of rfl rfl rfl rfl) (ja_cons (je_var 0) (ja_cons
      je_int ja_nil)) (lenA_cons (lenA_cons lenA_nil))) jx_nil)) rfl) (jss_cons (js_setD sc.nd (je_callN [false, false] (ok__law_multiple T) (hr.mono (by decide)) (takes_of rfl rfl rfl
      rfl) (ja_cons (je_ix ixd (je_var 1) je_int) (ja_cons (je_ix ixd (je_var 2) je_int) ja_nil)) (lenA_cons (lenA_cons lenA_nil)))) (jss_cons (js_setD sc.nd (je_op od_add (je_op
      od_add (je_ix ixd (je_var 1) je_int) (je_ix ixd (je_var 2) je_int)) (je_var 3))) (jss_cons (js_setD sc.nd (je_op od_add (je_var 4) (je_var 3))) (jss_cons (js_asgT (je_tup
      (ja_cons (je_callN [false, false] (ok__law_flags T) (hr.mono (by decide)) (takes_of rfl rfl rfl rfl) (ja_cons (je_var 1) (ja_cons (je_var 5) ja_nil)) (lenA_cons (lenA_cons
      lenA_nil))) (ja_cons (je_callN [false, false] (ok__law_flags T) (hr.mono (by decide)) (takes_of rfl rfl rfl rfl) (ja_cons (je_var 2) (ja_cons (je_var 5) ja_nil)) (lenA_cons
      (lenA_cons lenA_nil))) ja_nil))) (jg_tup rfl (jgs_cons (jg_name 6 sc.nd) (jgs_cons (jg_name 7 sc.nd) jgs_nil))) (hok := (noEr_T (noErs_cons (noEr_N 6) (noErs_cons (noEr_N 7)
      noErs_nil))))) (jss_cons (js_setD sc.nd (je_fz (jo_lst (ja_cons (je_fz (jo_lc [("first", 14), ("last", 15)] rfl sc.nd  (ji_zp rfl T.f_zip (je_var 6) (je_var 7)) (blkOk_by (by change blkC ["dice", "one", "other", "period", "start", "size", "left", "right", "flags", "sums", "at", "spot", "number", "above", "first", "last"] (defScope s__law_right) _ _ = true; decide +kernel))
      (fun _ _ _ _ _ => (jg_tup rfl (jgs_cons (jg_name 14 sc.nd) (jgs_cons (jg_name 15 sc.nd) jgs_nil)))) (fun _ _ _ _ _ => jts_nil) (fun _ _ _ _ _ => (je_or (je_var 14) (je_one
      (je_var 15)))))) (ja_cons (je_fz (jo_lc [("first", 14), ("last", 15)] rfl sc.nd  (ji_zp rfl T.f_zip (je_var 6) (je_var 7)) (blkOk_by (by change blkC ["dice", "one", "other", "period", "start", "size", "left", "right", "flags", "sums", "at", "spot", "number", "above", "first", "last"] (defScope s__law_right) _ _ = true; decide +kernel)) (fun _ _ _ _ _ => (jg_tup rfl
      (jgs_cons (jg_name 14 sc.nd) (jgs_cons (jg_name 15 sc.nd) jgs_nil)))) (fun _ _ _ _ _ => jts_nil) (fun _ _ _ _ _ => (je_and (je_var 14) (je_one (je_var 15)))))) ja_nil)))))
      (jss_cons (js_if (jt_cmp (od_ne hr.units) (je_callN [false, false] (ok_either T) (hr.mono (by decide)) (takes_of rfl rfl rfl rfl) (ja_cons (je_var 1) (ja_cons (je_var 2) ja_nil))
      (lenA_cons (lenA_cons lenA_nil))) (je_callN [false, false, false] (ok__law_tl_least T) (hr.mono (by decide)) (takes_of rfl rfl rfl rfl) (ja_cons (je_ix ixd (je_var 8) je_int)
      (ja_cons (je_var 4) (ja_cons (je_var 3) ja_nil))) (lenA_cons (lenA_cons (lenA_cons lenA_nil))))) (jss_one (js_ret je_bl)) jss_nil) (jss_cons (js_if (jt_cmp (od_ne hr.units)
      (je_callN [false, false] (ok_both T) (hr.mono (by decide)) (takes_of rfl rfl rfl rfl) (ja_cons (je_var 1) (ja_cons (je_var 2) ja_nil)) (lenA_cons (lenA_cons lenA_nil))) (je_callN
      [false, false, false] (ok__law_tl_least T) (hr.mono (by decide)) (takes_of rfl rfl rfl rfl) (ja_cons (je_ix ixd (je_var 8) je_int) (ja_cons (je_var 4) (ja_cons (je_var 3)
      ja_nil))) (lenA_cons (lenA_cons (lenA_cons lenA_nil))))) (jss_one (js_ret je_bl)) jss_nil) (jss_cons (js_setO sc.nd (jo_op oo_rep (je_fz (jo_lst (ja_cons je_bl ja_nil))) (je_var
      5))) (jss_cons (js_for (passes_of rfl) rfl (ji_seq (je_fz (jo_lc [("at", 10)] rfl sc.nd  (ji_rng1 rfl T.f_range (je_var 5)) (blkOk_by (by change blkC ["dice", "one", "other", "period", "start", "size", "left", "right", "flags", "sums", "at", "spot", "number", "above", "first", "last"] (defScope s__law_right) _ _ = true; decide +kernel)) (fun _ _ _ _ _ => (jg_name 10 sc.nd))
      (fun _ _ _ _ _ => (jts_one (jt_val (je_ix ixd (je_var 6) (je_var 10))))) (fun _ _ _ _ _ => (je_var 10))))) (jg_name 10 sc.nd) (jss_one (js_for (passes_of rfl) rfl (ji_seq (je_fz
      (jo_lc [("spot", 11)] rfl sc.nd  (ji_rng1 rfl T.f_range (je_op od_sub (je_var 5) (je_var 10))) (blkOk_by (by change blkC ["dice", "one", "other", "period", "start", "size", "left", "right", "flags", "sums", "at", "spot", "number", "above", "first", "last"] (defScope s__law_right) _ _ = true; decide +kernel)) (fun _ _ _ _ _ => (jg_name 11 sc.nd)) (fun _ _ _ _ _ => (jts_one
      (jt_val (je_ix ixd (je_var 7) (je_var 11))))) (fun _ _ _ _ _ => (je_var 11))))) (jg_name 11 sc.nd) (jss_one (js_setIx 9 je_bl (je_op od_add (je_var 10) (je_var 11)))))))
      (jss_cons (js_if (jt_w (jw_or (jt_cmp (od_ne hr.units) (je_callN [false, false] (ok_added T) (hr.mono (by decide)) (takes_of rfl rfl rfl rfl) (ja_cons (je_var 1) (ja_cons (je_var
      2) ja_nil)) (lenA_cons (lenA_cons lenA_nil))) (je_callN [false, false, false] (ok__law_tl_least T) (hr.mono (by decide)) (takes_of rfl rfl rfl rfl) (ja_cons (je_var 9) (ja_cons
      (je_var 4) (ja_cons (je_var 3) ja_nil))) (lenA_cons (lenA_cons (lenA_cons lenA_nil))))) (jw_or1 (jt_cmp (od_ne hr.units) (je_callN [false, false] (ok_added T) (hr.mono (by
      decide)) (takes_of rfl rfl rfl rfl) (ja_cons (je_var 2) (ja_cons (je_var 1) ja_nil)) (lenA_cons (lenA_cons lenA_nil))) (je_callN [false, false] (ok_added T) (hr.mono (by decide))
      (takes_of rfl rfl rfl rfl) (ja_cons (je_var 1) (ja_cons (je_var 2) ja_nil)) (lenA_cons (lenA_cons lenA_nil))))))) (jss_one (js_ret je_bl)) jss_nil) (jss_cons (js_setD sc.nd
      (je_callN [true, false] (ok__law_pick T) (hr.mono (by decide)) (takes_of rfl rfl rfl rfl) (ja_cons (je_var 0) (ja_cons (je_fz (jo_lst (ja_cons je_int (ja_cons je_int (ja_cons
      je_int (ja_cons je_int ja_nil)))))) ja_nil)) (lenA_cons (lenA_cons lenA_nil)))) (jss_cons (js_setD sc.nd (je_op od_add (je_op od_mul (je_fz (jo_lst (ja_cons je_bl ja_nil)))
      (je_var 12)) (je_callN [false, false] (ok__law_flags T) (hr.mono (by decide)) (takes_of rfl rfl rfl rfl) (ja_cons (je_var 1) (ja_cons (je_op od_add (je_ix ixd (je_var 1) je_int)
      (je_ix ixd (je_var 1) je_int)) ja_nil)) (lenA_cons (lenA_cons lenA_nil))))) (jss_cons (js_if (jt_w (jw_or (jt_cmp (od_ne hr.units) (je_callN [false, false] (ok_moved T) (hr.mono
      (by decide)) (takes_of rfl rfl rfl rfl) (ja_cons (je_var 1) (ja_cons (je_var 12) ja_nil)) (lenA_cons (lenA_cons lenA_nil))) (je_callN [false, false, false] (ok__law_tl_least T)
      (hr.mono (by decide)) (takes_of rfl rfl rfl rfl) (ja_cons (je_var 13) (ja_cons (je_op od_add (je_ix ixd (je_var 1) je_int) (je_var 12)) (ja_cons (je_ix ixd (je_var 1) je_int)
      ja_nil))) (lenA_cons (lenA_cons (lenA_cons lenA_nil))))) (jw_or1 (jt_cmp (od_ne hr.units) (je_callN [false, false] (ok_moved T) (hr.mono (by decide)) (takes_of rfl rfl rfl rfl)
      (ja_cons (je_var 1) (ja_cons je_int ja_nil)) (lenA_cons (lenA_cons lenA_nil))) (je_var 1))))) (jss_one (js_ret je_bl)) jss_nil) (jss_one (js_ret (je_and (je_cmp (od_eq hr.units)
      (je_callN [false, false] (ok_added T) (hr.mono (by decide)) (takes_of rfl rfl rfl rfl) (ja_cons (je_var 1) (ja_cons (je_gdat T.k_EMPTY) ja_nil)) (lenA_cons (lenA_cons lenA_nil)))
      (je_gdat T.k_EMPTY)) (je_and (je_cmp (od_eq hr.units) (je_callN [false, false] (ok_added T) (hr.mono (by decide)) (takes_of rfl rfl rfl rfl) (ja_cons (je_var 1) (ja_cons (je_tup
      (ja_cons (je_tup (ja_cons je_int ja_nil)) (ja_cons je_int (ja_cons je_int (ja_cons (je_tup ja_nil) ja_nil))))) ja_nil)) (lenA_cons (lenA_cons lenA_nil))) (je_var 1)) (je_one
      (je_cmp (od_eq hr.units) (je_callN [false, false] (ok_either T) (hr.mono (by decide)) (takes_of rfl rfl rfl rfl) (ja_cons (je_var 1) (ja_cons (je_gdat T.k_EMPTY) ja_nil))
      (lenA_cons (lenA_cons lenA_nil))) (je_var 1)))))))))))))))))))))
theorem sc__law_bounds_right : FnScope ["told", "late", "long", "seven"] [] (defScope s__law_bounds_right) := ⟨rfl, rfl, rfl, by decide +kernel, rfl, by decide +kernel, by decide +kernel⟩
theorem ok__law_bounds_right (T : Facts K mg) (TB : LamX.TabB base mg (He.cT K ("_law_bounds_right", none)).1 (He.cT K ("_law_bounds_right", none)).2) : OkG P w K mg base 11 "_law_bounds_right" [] c__law_bounds_right := by
  have sc := sc__law_bounds_right
  obtain ⟨fd__law_met, F__law_met⟩ := T.d__law_met
  refine mkOkG T.d__law_bounds_right T.g__law_bounds_right sc (fun _ _ _ _ _ _ us hl => match us, hl with | [], _ => rfl) (fun cdv A outer s H E gd hcd ⟨_, _, _, _, _, _, _, _, _, lk⟩ hr => ?_) rfl
  obtain ⟨c0, rfl⟩ := He.codeIn_ref hcd
  have ec : (He.cT K ("_law_bounds_right", none)).1 = c0 := He.codeOf_eq lk rfl
  have TB2 : LamX.TabB base mg c0 (He.cT K ("_law_bounds_right", none)).2 := by rw [← ec]; exact TB
  exact
    (jss_cons (js_asgT (je_tup (ja_cons (je_callN [false, false, false, false] (ok_tally_of T) (hr.mono (by decide)) (takes_of rfl rfl rfl rfl) (ja_cons (je_tup ja_nil) (ja_cons je_int
      (ja_cons je_int (ja_cons (je_tup (ja_cons je_int ja_nil)) ja_nil)))) (lenA_cons (lenA_cons (lenA_cons (lenA_cons lenA_nil))))) (ja_cons (je_callN [false, false, false, false]
      (ok_tally_of T) (hr.mono (by decide)) (takes_of rfl rfl rfl rfl) (ja_cons (je_tup ja_nil) (ja_cons je_int (ja_cons je_int (ja_cons (je_tup (ja_cons je_int ja_nil)) ja_nil))))
      (lenA_cons (lenA_cons (lenA_cons (lenA_cons lenA_nil))))) ja_nil))) (jg_tup rfl (jgs_cons (jg_name 3 sc.nd) (jgs_cons (jg_name 2 sc.nd) jgs_nil))) (hok := (noEr_T (noErs_cons
      (noEr_N 3) (noErs_cons (noEr_N 2) noErs_nil))))) (jss_cons (js_parL2 rfl sc.nd rfl rfl (Or.inr rfl) (Or.inl rfl) (Or.inl rfl) (Or.inl rfl) (jx_d (je_callN [false, false, false,
      false] (ok_tally_of T) (hr.mono (by decide)) (takes_of rfl rfl rfl rfl) (ja_cons (je_tup ja_nil) (ja_cons je_int (ja_cons je_int (ja_cons (je_tup (ja_cons je_int ja_nil))
      ja_nil)))) (lenA_cons (lenA_cons (lenA_cons (lenA_cons lenA_nil))))) (jx_o (jo_lst ja_nil) jx_nil)) rfl) (jss_cons (js_expr (je_append 0 (je_lam (hnd := hnd__law_met) (fine :=
      "fine") (k := 7) F__law_met T.g__law_met sc__law_met bd__law_met rfl (Or.inl rfl) (fun cdv => gv__law_met T hr gd) TB2 rfl rfl (hr.mono (by decide)) (LamX.lamS_by (by change LamX.lamSB (defScope s__law_bounds_right) _ = true; decide +kernel)) (fun _ _
      _ _ _ => rfl) (fun A2 outer2 s2 H2 E2 f2 c2 hr => (je_callN [false, false] (ok_either T) (hr.mono (by decide)) (takes_of rfl rfl rfl rfl) (ja_cons (je_var 3) (ja_cons (je_callN
      [false, false, false, false] (ok_tally_of T) (hr.mono (by decide)) (takes_of rfl rfl rfl rfl) (ja_cons (je_tup ja_nil) (ja_cons je_int (ja_cons je_int (ja_cons (je_tup (ja_cons
      je_int ja_nil)) ja_nil)))) (lenA_cons (lenA_cons (lenA_cons (lenA_cons lenA_nil))))) ja_nil)) (lenA_cons (lenA_cons lenA_nil))))))) (jss_cons (js_expr (je_append 0 (je_lam (hnd
      := hnd__law_met) (fine := "fine") (k := 7) F__law_met T.g__law_met sc__law_met bd__law_met rfl (Or.inl rfl) (fun cdv => gv__law_met T hr gd) TB2 rfl rfl (hr.mono (by decide))
      (LamX.lamS_by (by change LamX.lamSB (defScope s__law_bounds_right) _ = true; decide +kernel)) (fun _ _ _ _ _ => rfl) (fun A2 outer2 s2 H2 E2 f2 c2 hr => (je_callN [false, false] (ok_either T) (hr.mono (by decide)) (takes_of rfl rfl rfl rfl) (ja_cons
      (je_var 3) (ja_cons (je_var 2) ja_nil)) (lenA_cons (lenA_cons lenA_nil))))))) (jss_cons (js_expr (je_append 0 (je_lam (hnd := hnd__law_met) (fine := "fine") (k := 7) F__law_met
      T.g__law_met sc__law_met bd__law_met rfl (Or.inl rfl) (fun cdv => gv__law_met T hr gd) TB2 rfl rfl (hr.mono (by decide)) (LamX.lamS_by (by change LamX.lamSB (defScope s__law_bounds_right) _ = true; decide +kernel)) (fun _ _ _ _ _ => rfl) (fun A2
      outer2 s2 H2 E2 f2 c2 hr => (je_callN [false, false] (ok_both T) (hr.mono (by decide)) (takes_of rfl rfl rfl rfl) (ja_cons (je_var 2) (ja_cons (je_var 3) ja_nil)) (lenA_cons
      (lenA_cons lenA_nil))))))) (jss_cons (js_expr (je_append 0 (je_lam (hnd := hnd__law_met) (fine := "fine") (k := 7) F__law_met T.g__law_met sc__law_met bd__law_met rfl (Or.inl
      rfl) (fun cdv => gv__law_met T hr gd) TB2 rfl rfl (hr.mono (by decide)) (LamX.lamS_by (by change LamX.lamSB (defScope s__law_bounds_right) _ = true; decide +kernel)) (fun _ _ _ _ _ => rfl) (fun A2 outer2 s2 H2 E2 f2 c2 hr => (je_callN [false, false]
      (ok_moved T) (hr.mono (by decide)) (takes_of rfl rfl rfl rfl) (ja_cons (je_var 1) (ja_cons je_int ja_nil)) (lenA_cons (lenA_cons lenA_nil))))))) (jss_cons (js_expr (je_append 0
      (je_lam (hnd := hnd__law_met) (fine := "fine") (k := 7) F__law_met T.g__law_met sc__law_met bd__law_met rfl (Or.inl rfl) (fun cdv => gv__law_met T hr gd) TB2 rfl rfl (hr.mono (by
      decide)) (LamX.lamS_by (by change LamX.lamSB (defScope s__law_bounds_right) _ = true; decide +kernel)) (fun _ _ _ _ _ => rfl) (fun A2 outer2 s2 H2 E2 f2 c2 hr => (je_callN [false, false] (ok_moved T) (hr.mono (by decide)) (takes_of rfl rfl rfl rfl)
      (ja_cons (je_var 1) (ja_cons je_int ja_nil)) (lenA_cons (lenA_cons lenA_nil))))))) (jss_cons (js_expr (je_append 0 (je_lam (hnd := hnd__law_met) (fine := "fine") (k := 7)
      F__law_met T.g__law_met sc__law_met bd__law_met rfl (Or.inl rfl) (fun cdv => gv__law_met T hr gd) TB2 rfl rfl (hr.mono (by decide)) (LamX.lamS_by (by change LamX.lamSB (defScope s__law_bounds_right) _ = true; decide +kernel)) (fun _ _ _ _ _ => rfl)
      (fun A2 outer2 s2 H2 E2 f2 c2 hr => (je_callN [false, false] (ok_added T) (hr.mono (by decide)) (takes_of rfl rfl rfl rfl) (ja_cons (je_callN [false, false, false, false]
      (ok_tally_of T) (hr.mono (by decide)) (takes_of rfl rfl rfl rfl) (ja_cons (je_tup ja_nil) (ja_cons je_int (ja_cons je_int (ja_cons (je_tup (ja_cons je_int ja_nil)) ja_nil))))
      (lenA_cons (lenA_cons (lenA_cons (lenA_cons lenA_nil))))) (ja_cons (je_callN [false, false, false, false] (ok_tally_of T) (hr.mono (by decide)) (takes_of rfl rfl rfl rfl)
      (ja_cons (je_tup ja_nil) (ja_cons je_int (ja_cons je_int (ja_cons (je_tup (ja_cons je_int ja_nil)) ja_nil)))) (lenA_cons (lenA_cons (lenA_cons (lenA_cons lenA_nil))))) ja_nil))
      (lenA_cons (lenA_cons lenA_nil))))))) (jss_cons (js_expr (je_append 0 (je_lam (hnd := hnd__law_met) (fine := "fine") (k := 7) F__law_met T.g__law_met sc__law_met bd__law_met rfl
      (Or.inl rfl) (fun cdv => gv__law_met T hr gd) TB2 rfl rfl (hr.mono (by decide)) (LamX.lamS_by (by change LamX.lamSB (defScope s__law_bounds_right) _ = true; decide +kernel)) (fun _ _ _ _ _ => rfl) (fun A2 outer2 s2 H2 E2 f2 c2 hr => (je_callN [false,
      false] (ok_added T) (hr.mono (by decide)) (takes_of rfl rfl rfl rfl) (ja_cons (je_callN [false, false, false, false] (ok_tally_of T) (hr.mono (by decide)) (takes_of rfl rfl rfl
      rfl) (ja_cons (je_tup ja_nil) (ja_cons je_int (ja_cons je_int (ja_cons (je_tup (ja_cons je_int ja_nil)) ja_nil)))) (lenA_cons (lenA_cons (lenA_cons (lenA_cons lenA_nil)))))
      (ja_cons (je_callN [false, false, false, false] (ok_tally_of T) (hr.mono (by decide)) (takes_of rfl rfl rfl rfl) (ja_cons (je_tup ja_nil) (ja_cons je_int (ja_cons je_int (ja_cons
      (je_tup (ja_cons je_int ja_nil)) ja_nil)))) (lenA_cons (lenA_cons (lenA_cons (lenA_cons lenA_nil))))) ja_nil)) (lenA_cons (lenA_cons lenA_nil))))))) (jss_cons (js_expr (je_append
      0 (je_lam (hnd := hnd__law_met) (fine := "fine") (k := 7) F__law_met T.g__law_met sc__law_met bd__law_met rfl (Or.inl rfl) (fun cdv => gv__law_met T hr gd) TB2 rfl rfl (hr.mono
      (by decide)) (LamX.lamS_by (by change LamX.lamSB (defScope s__law_bounds_right) _ = true; decide +kernel)) (fun _ _ _ _ _ => rfl) (fun A2 outer2 s2 H2 E2 f2 c2 hr => (je_callN [false, false] (ok_added T) (hr.mono (by decide)) (takes_of rfl rfl rfl
      rfl) (ja_cons (je_var 1) (ja_cons (je_callN [false, false, false, false] (ok_tally_of T) (hr.mono (by decide)) (takes_of rfl rfl rfl rfl) (ja_cons (je_tup ja_nil) (ja_cons je_int
      (ja_cons je_int (ja_cons (je_tup (ja_cons je_int ja_nil)) ja_nil)))) (lenA_cons (lenA_cons (lenA_cons (lenA_cons lenA_nil))))) ja_nil)) (lenA_cons (lenA_cons lenA_nil)))))))
      (jss_cons (js_expr (je_append 0 (je_lam (hnd := hnd__law_met) (fine := "fine") (k := 7) F__law_met T.g__law_met sc__law_met bd__law_met rfl (Or.inl rfl) (fun cdv => gv__law_met T
      hr gd) TB2 rfl rfl (hr.mono (by decide)) (LamX.lamS_by (by change LamX.lamSB (defScope s__law_bounds_right) _ = true; decide +kernel)) (fun _ _ _ _ _ => rfl) (fun A2 outer2 s2 H2 E2 f2 c2 hr => (je_callN [false, false] (ok_added T) (hr.mono (by
      decide)) (takes_of rfl rfl rfl rfl) (ja_cons (je_var 1) (ja_cons (je_callN [false, false, false, false] (ok_tally_of T) (hr.mono (by decide)) (takes_of rfl rfl rfl rfl) (ja_cons
      (je_tup ja_nil) (ja_cons je_int (ja_cons je_int (ja_cons (je_tup (ja_cons je_int ja_nil)) ja_nil)))) (lenA_cons (lenA_cons (lenA_cons (lenA_cons lenA_nil))))) ja_nil)) (lenA_cons
      (lenA_cons lenA_nil))))))) (jss_one (js_ret (je_cmp (od_eq hr.units) (je_var 0) (je_fz (jo_lst (ja_cons je_str (ja_cons je_int (ja_cons je_int (ja_cons je_str (ja_cons je_int
      (ja_cons je_str (ja_cons je_int (ja_cons je_int (ja_cons je_str ja_nil)))))))))))))))))))))))))
theorem sc_law : FnScope ["script", "spot", "dice", "turn"] ["script"] (defScope s_law) := ⟨rfl, rfl, rfl, by decide +kernel, rfl, by decide +kernel, by decide +kernel⟩
theorem ok_law (T : Facts K mg) (TB : LamX.TabB base mg (He.cT K ("_law_bounds_right", none)).1 (He.cT K ("_law_bounds_right", none)).2) : OkG P w K mg base 12 "law" ["script"] c_law := by
  have sc := sc_law
  obtain ⟨fd__law_met, F__law_met⟩ := T.d__law_met
  refine mkOkG T.d_law T.g_law sc (fun _ _ _ _ _ _ us hl => match us, hl with | [_], _ => rfl) (fun cdv A outer s H E gd hcd ⟨_, _, _, _, _, _, _, _, _, lk⟩ hr => ?_) rfl
  exact
    (jss_cons (js_for (passes_of rfl) rfl (ji_rng1 rfl T.f_range (je_callB (cd_max rfl) rfl T.f_max PyProof.Rows.boot_max (ja_cons je_int (ja_cons (je_callB (cd_min rfl) rfl T.f_min
      PyProof.Rows.boot_min (ja_cons je_int (ja_cons (je_callB cd_len rfl T.f_len PySem.boot_len (ja_cons (je_var 0) ja_nil)) ja_nil))) ja_nil)))) (jg_name 1 sc.nd) (jss_cons (js_setO
      sc.nd (jo_callN [false, false] (ok__law_dice T) (hr.mono (by decide)) (takes_of rfl rfl rfl rfl) (ja_cons (je_var 0) (ja_cons (je_var 1) ja_nil)) (lenA_cons (lenA_cons
      lenA_nil)))) (jss_one (js_for (passes_of rfl) rfl (ji_rng1 rfl T.f_range je_int) (jg_name 3 sc.nd) (jss_one (js_if (jt_not (jt_val (je_callN [true] (ok__law_right T) (hr.mono (by
      decide)) (takes_of rfl rfl rfl rfl) (ja_cons (je_var 2) ja_nil) (lenA_cons lenA_nil)))) (jss_one (js_ret je_bl)) jss_nil)))))) (jss_one (js_ret (je_callG0 (ok__law_bounds_right T
      TB) gd (hr.mono (by decide)) (takes_of rfl rfl rfl rfl) rfl))))
end
/-! the head -/
end K14
end
section
set_option Elab.async false
set_option linter.all false
set_option maxRecDepth 100000
set_option maxHeartbeats 4000000
namespace K14
open PySem PySem.Spec L2 DL
open PyProof.Rows hiding St
def nm0 : List Str := ["__name__", "LONGEST", "is_integer", "is_within", "BuildError", "InvalidOperation", "TooMany", "InvalidNumber", "MAX_BOUND", "MAX_MEMBERS", "EMPTY", "is_row_within", "is_told_set", "has_in", "divisors_of", "least_period", "tally_of_flags", "flags_in", "least_in", "is_tally"]
def nm1 : List Str := ["require_tally", "require_from", "tally_of", "common_multiple", "require_bound", "either_in", "either", "both", "moved_in", "moved", "sums_of", "added_in", "added", "_law_dice", "_law_roll", "_law_pick", "_law_tl_has", "_law_tl_least", "_law_tl_of", "_law_set"]
def nm2 : List Str := ["_law_flags", "_law_multiple", "_law_right", "_law_met", "_law_bounds_right"]
def d_is_integer : He.DefD := ⟨("is_integer", none), "is_integer", "is_integer", defArgs s_is_integer, defBody s_is_integer, defScope s_is_integer, [], []⟩
def d_has_in : He.DefD := ⟨("has_in", none), "has_in", "has_in", defArgs s_has_in, defBody s_has_in, defScope s_has_in, [], []⟩
def d_divisors_of : He.DefD := ⟨("divisors_of", none), "divisors_of", "divisors_of", defArgs s_divisors_of, defBody s_divisors_of, defScope s_divisors_of, [], []⟩
def d_common_multiple : He.DefD := ⟨("common_multiple", none), "common_multiple", "common_multiple", defArgs s_common_multiple, defBody s_common_multiple, defScope s_common_multiple, [], []⟩
def d_sums_of : He.DefD := ⟨("sums_of", none), "sums_of", "sums_of", defArgs s_sums_of, defBody s_sums_of, defScope s_sums_of, [], []⟩
def d__law_dice : He.DefD := ⟨("_law_dice", none), "_law_dice", "_law_dice", defArgs s__law_dice, defBody s__law_dice, defScope s__law_dice, [], []⟩
def d__law_roll : He.DefD := ⟨("_law_roll", none), "_law_roll", "_law_roll", defArgs s__law_roll, defBody s__law_roll, defScope s__law_roll, [], []⟩
def d__law_tl_has : He.DefD := ⟨("_law_tl_has", none), "_law_tl_has", "_law_tl_has", defArgs s__law_tl_has, defBody s__law_tl_has, defScope s__law_tl_has, [], []⟩
def d__law_tl_least : He.DefD := ⟨("_law_tl_least", none), "_law_tl_least", "_law_tl_least", defArgs s__law_tl_least, defBody s__law_tl_least, defScope s__law_tl_least, [], []⟩
def d__law_multiple : He.DefD := ⟨("_law_multiple", none), "_law_multiple", "_law_multiple", defArgs s__law_multiple, defBody s__law_multiple, defScope s__law_multiple, [], []⟩
def d_is_within : He.DefD := ⟨("is_within", none), "is_within", "is_within", defArgs s_is_within, defBody s_is_within, defScope s_is_within, [], []⟩
def d_least_period : He.DefD := ⟨("least_period", none), "least_period", "least_period", defArgs s_least_period, defBody s_least_period, defScope s_least_period, [], []⟩
def d_flags_in : He.DefD := ⟨("flags_in", none), "flags_in", "flags_in", defArgs s_flags_in, defBody s_flags_in, defScope s_flags_in, [], []⟩
def d__law_pick : He.DefD := ⟨("_law_pick", none), "_law_pick", "_law_pick", defArgs s__law_pick, defBody s__law_pick, defScope s__law_pick, [], []⟩
def d__law_tl_of : He.DefD := ⟨("_law_tl_of", none), "_law_tl_of", "_law_tl_of", defArgs s__law_tl_of, defBody s__law_tl_of, defScope s__law_tl_of, [], []⟩
def d__law_flags : He.DefD := ⟨("_law_flags", none), "_law_flags", "_law_flags", defArgs s__law_flags, defBody s__law_flags, defScope s__law_flags, [], []⟩
def d_is_row_within : He.DefD := ⟨("is_row_within", none), "is_row_within", "is_row_within", defArgs s_is_row_within, defBody s_is_row_within, defScope s_is_row_within, [], []⟩
def d_tally_of_flags : He.DefD := ⟨("tally_of_flags", none), "tally_of_flags", "tally_of_flags", defArgs s_tally_of_flags, defBody s_tally_of_flags, defScope s_tally_of_flags, [], []⟩
def d_require_from : He.DefD := ⟨("require_from", none), "require_from", "require_from", defArgs s_require_from, defBody s_require_from, defScope s_require_from, [], []⟩
def d_require_bound : He.DefD := ⟨("require_bound", none), "require_bound", "require_bound", defArgs s_require_bound, defBody s_require_bound, defScope s_require_bound, [], []⟩
def d__law_set : He.DefD := ⟨("_law_set", none), "_law_set", "_law_set", defArgs s__law_set, defBody s__law_set, defScope s__law_set, [], []⟩
def d_is_told_set : He.DefD := ⟨("is_told_set", none), "is_told_set", "is_told_set", defArgs s_is_told_set, defBody s_is_told_set, defScope s_is_told_set, [], []⟩
def d_least_in : He.DefD := ⟨("least_in", none), "least_in", "least_in", defArgs s_least_in, defBody s_least_in, defScope s_least_in, [], []⟩
def d_either_in : He.DefD := ⟨("either_in", none), "either_in", "either_in", defArgs s_either_in, defBody s_either_in, defScope s_either_in, [], []⟩
def d_moved_in : He.DefD := ⟨("moved_in", none), "moved_in", "moved_in", defArgs s_moved_in, defBody s_moved_in, defScope s_moved_in, [], []⟩
def d_added_in : He.DefD := ⟨("added_in", none), "added_in", "added_in", defArgs s_added_in, defBody s_added_in, defScope s_added_in, [], []⟩
def d_is_tally : He.DefD := ⟨("is_tally", none), "is_tally", "is_tally", defArgs s_is_tally, defBody s_is_tally, defScope s_is_tally, [], []⟩
def d_tally_of : He.DefD := ⟨("tally_of", none), "tally_of", "tally_of", defArgs s_tally_of, defBody s_tally_of, defScope s_tally_of, [], []⟩
def d_require_tally : He.DefD := ⟨("require_tally", none), "require_tally", "require_tally", defArgs s_require_tally, defBody s_require_tally, defScope s_require_tally, [], []⟩
def d_either : He.DefD := ⟨("either", none), "either", "either", defArgs s_either, defBody s_either, defScope s_either, [], []⟩
def d_both : He.DefD := ⟨("both", none), "both", "both", defArgs s_both, defBody s_both, defScope s_both, [], []⟩
def d_moved : He.DefD := ⟨("moved", none), "moved", "moved", defArgs s_moved, defBody s_moved, defScope s_moved, [], []⟩
def d_added : He.DefD := ⟨("added", none), "added", "added", defArgs s_added, defBody s_added, defScope s_added, [], []⟩
def d__law_right : He.DefD := ⟨("_law_right", none), "_law_right", "_law_right", defArgs s__law_right, defBody s__law_right, defScope s__law_right, [], []⟩
def d__law_bounds_right : He.DefD := ⟨("_law_bounds_right", none), "_law_bounds_right", "_law_bounds_right", defArgs s__law_bounds_right, defBody s__law_bounds_right, defScope s__law_bounds_right, [], []⟩
def d_law : He.DefD := ⟨("law", none), "law", "law", defArgs s_law, defBody s_law, defScope s_law, [], []⟩
def d__law_met : He.DefD := ⟨("_law_met", none), "_law_met", "_law_met", defArgs s__law_met, defBody s__law_met, defScope s__law_met, [], []⟩
def d_InvalidNumber : He.DefD := ⟨("InvalidNumber", some "__init__"), "__init__", "InvalidNumber.__init__", defArgs si_InvalidNumber, defBody si_InvalidNumber, defScope si_InvalidNumber, [], []⟩
def d_TooMany : He.DefD := ⟨("TooMany", some "__init__"), "__init__", "TooMany.__init__", defArgs si_TooMany, defBody si_TooMany, defScope si_TooMany, [], []⟩
def fnL : List He.DefD := [d_is_integer, d_has_in, d_divisors_of, d_common_multiple, d_sums_of, d__law_dice, d__law_roll, d__law_tl_has, d__law_tl_least, d__law_multiple, d_is_within, d_least_period, d_flags_in, d__law_pick, d__law_tl_of, d__law_flags, d_is_row_within, d_tally_of_flags, d_require_from, d_require_bound, d__law_set, d_is_told_set, d_least_in, d_either_in, d_moved_in, d_added_in, d_is_tally, d_tally_of, d_require_tally, d_either, d_both, d_moved, d_added, d__law_right, d__law_bounds_right, d_law, d__law_met, d_InvalidNumber, d_TooMany]
def faL : List He.Fa := [.glo "is_integer", .glo "has_in", .glo "divisors_of", .glo "common_multiple", .glo "sums_of", .glo "_law_dice", .glo "_law_roll", .glo "_law_tl_has", .glo "_law_tl_least", .glo "_law_multiple", .glo "is_within", .glo "least_period", .glo "flags_in", .glo "_law_pick", .glo "_law_tl_of", .glo "_law_flags", .glo "is_row_within", .glo "tally_of_flags", .glo "require_from", .glo "require_bound", .glo "_law_set", .glo "is_told_set", .glo "least_in", .glo "either_in", .glo "moved_in", .glo "added_in", .glo "is_tally", .glo "tally_of", .glo "require_tally", .glo "either", .glo "both", .glo "moved", .glo "added", .glo "_law_right", .glo "_law_bounds_right", .glo "law", .glo "_law_met", .glo "InvalidNumber", .glo "InvalidOperation", .glo "TooMany", .free "abs", .free "all", .free "any", .free "bool", .free "enumerate", .free "int", .free "isinstance", .free "len", .free "list", .free "max", .free "min", .free "range", .free "tuple", .free "zip", .int "LONGEST" k_LONGEST, .int "MAX_BOUND" k_MAX_BOUND, .int "MAX_MEMBERS" k_MAX_MEMBERS]
def exB (K : PySem.W.Frag) : Bool := (datG K "EMPTY" k_EMPTY && (flB K (He.ga K "InvalidNumber") "number" [.type "RuntimeError", .type "Exception", .type "BaseException", .type "object"] "RuntimeError.__new__" && (plB K (He.ga K "InvalidOperation") [.type "ValueError", .type "Exception", .type "BaseException", .type "object"] "ValueError.__new__" && (flB K (He.ga K "TooMany") "limit" [.type "OverflowError", .type "ArithmeticError", .type "Exception", .type "BaseException", .type "object"] "OverflowError.__new__" && (decide (PySem.W.exmOne K (.ref (He.ga K "InvalidNumber")) (.ref (He.ga K "TooMany")) = some false) && (decide (PySem.W.exmOne K (.ref (He.ga K "InvalidOperation")) (.ref (He.ga K "TooMany")) = some false) && (decide (PySem.W.exmOne K (.ref (He.ga K "TooMany")) (.ref (He.ga K "TooMany")) = some true) && true)))))))
abbrev R : PySem.W.OpenRow := PySem.W.OpenLaw.row PySem.Challenge.rw_whichsums_k14_whole_sets_of_two
abbrev hk : PySem.W.Hook := He.hookX 4 faL fnL [] [("_law_bounds_right", none)] exB
def ob (s : PySem.W.SharedT) : He.AlX := He.obsX 4 faL fnL [] [("_law_bounds_right", none)] exB (HandSHeadRun.getT s)
theorem ob_eq (s : PySem.W.SharedT) : ob s = hk.obs s.abs := He.obsX_eq (HandSHeadRun.getT_eq s)
theorem run (w : World) : HandSHeadRun.RunEq R (PySem.W.view R.prog [48]) hk ob 6000 (nm0 ++ nm1 ++ nm2) w := by
  intro os
  kernel_rfl
theorem factsOf {K : PySem.W.Frag} {h : Heap} {mg : Str → Option Value} {w : World} (X : K.In h) (G : h.Ns mainGlobals mg) (c : He.SaysX faL fnL [] [("_law_bounds_right", none)] exB w h K) : Facts K mg := by
  have cd : He.SaysD faL fnL K := congrArg (fun z : He.AlT => z.1) c.t
  have cm := c.more
  unfold exB at cm
  obtain ⟨z_k_EMPTY, cm⟩ := He.ba cm
  obtain ⟨z_x_InvalidNumber, cm⟩ := He.ba cm
  obtain ⟨z_x_InvalidOperation, cm⟩ := He.ba cm
  obtain ⟨z_x_TooMany, cm⟩ := He.ba cm
  obtain ⟨z_e_InvalidNumber_TooMany, cm⟩ := He.ba cm
  obtain ⟨z_e_InvalidOperation_TooMany, cm⟩ := He.ba cm
  obtain ⟨z_e_TooMany_TooMany, cm⟩ := He.ba cm
  exact {
    f_abs := He.free_ok X G (cd.fact 40 (f := .free "abs") rfl)
    f_all := He.free_ok X G (cd.fact 41 (f := .free "all") rfl)
    f_any := He.free_ok X G (cd.fact 42 (f := .free "any") rfl)
    f_bool := He.free_ok X G (cd.fact 43 (f := .free "bool") rfl)
    f_enumerate := He.free_ok X G (cd.fact 44 (f := .free "enumerate") rfl)
    f_int := He.free_ok X G (cd.fact 45 (f := .free "int") rfl)
    f_isinstance := He.free_ok X G (cd.fact 46 (f := .free "isinstance") rfl)
    f_len := He.free_ok X G (cd.fact 47 (f := .free "len") rfl)
    f_list := He.free_ok X G (cd.fact 48 (f := .free "list") rfl)
    f_max := He.free_ok X G (cd.fact 49 (f := .free "max") rfl)
    f_min := He.free_ok X G (cd.fact 50 (f := .free "min") rfl)
    f_range := He.free_ok X G (cd.fact 51 (f := .free "range") rfl)
    f_tuple := He.free_ok X G (cd.fact 52 (f := .free "tuple") rfl)
    f_zip := He.free_ok X G (cd.fact 53 (f := .free "zip") rfl)
    k_LONGEST := He.int_ok X G (cd.fact 54 (f := .int "LONGEST" k_LONGEST) rfl)
    k_MAX_BOUND := He.int_ok X G (cd.fact 55 (f := .int "MAX_BOUND" k_MAX_BOUND) rfl)
    k_MAX_MEMBERS := He.int_ok X G (cd.fact 56 (f := .int "MAX_MEMBERS" k_MAX_MEMBERS) rfl)
    k_EMPTY := datG_ok X G z_k_EMPTY
    x_InvalidNumber := z_x_InvalidNumber
    x_InvalidOperation := z_x_InvalidOperation
    x_TooMany := z_x_TooMany
    e_InvalidNumber_TooMany := of_decide_eq_true z_e_InvalidNumber_TooMany
    e_InvalidOperation_TooMany := of_decide_eq_true z_e_InvalidOperation_TooMany
    e_TooMany_TooMany := of_decide_eq_true z_e_TooMany_TooMany
    g_InvalidNumber := He.glo_ok X G (cd.fact 37 (f := .glo "InvalidNumber") rfl)
    g_InvalidOperation := He.glo_ok X G (cd.fact 38 (f := .glo "InvalidOperation") rfl)
    g_TooMany := He.glo_ok X G (cd.fact 39 (f := .glo "TooMany") rfl)
    d_InvalidNumber := cd.def_ 37 (d := d_InvalidNumber) rfl
    d_TooMany := cd.def_ 38 (d := d_TooMany) rfl
    d_is_integer := cd.def_ 0 (d := d_is_integer) rfl
    g_is_integer := He.glo_ok X G (cd.fact 0 (f := .glo "is_integer") rfl)
    d_has_in := cd.def_ 1 (d := d_has_in) rfl
    g_has_in := He.glo_ok X G (cd.fact 1 (f := .glo "has_in") rfl)
    d_divisors_of := cd.def_ 2 (d := d_divisors_of) rfl
    g_divisors_of := He.glo_ok X G (cd.fact 2 (f := .glo "divisors_of") rfl)
    d_common_multiple := cd.def_ 3 (d := d_common_multiple) rfl
    g_common_multiple := He.glo_ok X G (cd.fact 3 (f := .glo "common_multiple") rfl)
    d_sums_of := cd.def_ 4 (d := d_sums_of) rfl
    g_sums_of := He.glo_ok X G (cd.fact 4 (f := .glo "sums_of") rfl)
    d__law_dice := cd.def_ 5 (d := d__law_dice) rfl
    g__law_dice := He.glo_ok X G (cd.fact 5 (f := .glo "_law_dice") rfl)
    d__law_roll := cd.def_ 6 (d := d__law_roll) rfl
    g__law_roll := He.glo_ok X G (cd.fact 6 (f := .glo "_law_roll") rfl)
    d__law_tl_has := cd.def_ 7 (d := d__law_tl_has) rfl
    g__law_tl_has := He.glo_ok X G (cd.fact 7 (f := .glo "_law_tl_has") rfl)
    d__law_tl_least := cd.def_ 8 (d := d__law_tl_least) rfl
    g__law_tl_least := He.glo_ok X G (cd.fact 8 (f := .glo "_law_tl_least") rfl)
    d__law_multiple := cd.def_ 9 (d := d__law_multiple) rfl
    g__law_multiple := He.glo_ok X G (cd.fact 9 (f := .glo "_law_multiple") rfl)
    d_is_within := cd.def_ 10 (d := d_is_within) rfl
    g_is_within := He.glo_ok X G (cd.fact 10 (f := .glo "is_within") rfl)
    d_least_period := cd.def_ 11 (d := d_least_period) rfl
    g_least_period := He.glo_ok X G (cd.fact 11 (f := .glo "least_period") rfl)
    d_flags_in := cd.def_ 12 (d := d_flags_in) rfl
    g_flags_in := He.glo_ok X G (cd.fact 12 (f := .glo "flags_in") rfl)
    d__law_pick := cd.def_ 13 (d := d__law_pick) rfl
    g__law_pick := He.glo_ok X G (cd.fact 13 (f := .glo "_law_pick") rfl)
    d__law_tl_of := cd.def_ 14 (d := d__law_tl_of) rfl
    g__law_tl_of := He.glo_ok X G (cd.fact 14 (f := .glo "_law_tl_of") rfl)
    d__law_flags := cd.def_ 15 (d := d__law_flags) rfl
    g__law_flags := He.glo_ok X G (cd.fact 15 (f := .glo "_law_flags") rfl)
    d_is_row_within := cd.def_ 16 (d := d_is_row_within) rfl
    g_is_row_within := He.glo_ok X G (cd.fact 16 (f := .glo "is_row_within") rfl)
    d_tally_of_flags := cd.def_ 17 (d := d_tally_of_flags) rfl
    g_tally_of_flags := He.glo_ok X G (cd.fact 17 (f := .glo "tally_of_flags") rfl)
    d_require_from := cd.def_ 18 (d := d_require_from) rfl
    g_require_from := He.glo_ok X G (cd.fact 18 (f := .glo "require_from") rfl)
    d_require_bound := cd.def_ 19 (d := d_require_bound) rfl
    g_require_bound := He.glo_ok X G (cd.fact 19 (f := .glo "require_bound") rfl)
    d__law_set := cd.def_ 20 (d := d__law_set) rfl
    g__law_set := He.glo_ok X G (cd.fact 20 (f := .glo "_law_set") rfl)
    d_is_told_set := cd.def_ 21 (d := d_is_told_set) rfl
    g_is_told_set := He.glo_ok X G (cd.fact 21 (f := .glo "is_told_set") rfl)
    d_least_in := cd.def_ 22 (d := d_least_in) rfl
    g_least_in := He.glo_ok X G (cd.fact 22 (f := .glo "least_in") rfl)
    d_either_in := cd.def_ 23 (d := d_either_in) rfl
    g_either_in := He.glo_ok X G (cd.fact 23 (f := .glo "either_in") rfl)
    d_moved_in := cd.def_ 24 (d := d_moved_in) rfl
    g_moved_in := He.glo_ok X G (cd.fact 24 (f := .glo "moved_in") rfl)
    d_added_in := cd.def_ 25 (d := d_added_in) rfl
    g_added_in := He.glo_ok X G (cd.fact 25 (f := .glo "added_in") rfl)
    d_is_tally := cd.def_ 26 (d := d_is_tally) rfl
    g_is_tally := He.glo_ok X G (cd.fact 26 (f := .glo "is_tally") rfl)
    d_tally_of := cd.def_ 27 (d := d_tally_of) rfl
    g_tally_of := He.glo_ok X G (cd.fact 27 (f := .glo "tally_of") rfl)
    d_require_tally := cd.def_ 28 (d := d_require_tally) rfl
    g_require_tally := He.glo_ok X G (cd.fact 28 (f := .glo "require_tally") rfl)
    d_either := cd.def_ 29 (d := d_either) rfl
    g_either := He.glo_ok X G (cd.fact 29 (f := .glo "either") rfl)
    d_both := cd.def_ 30 (d := d_both) rfl
    g_both := He.glo_ok X G (cd.fact 30 (f := .glo "both") rfl)
    d_moved := cd.def_ 31 (d := d_moved) rfl
    g_moved := He.glo_ok X G (cd.fact 31 (f := .glo "moved") rfl)
    d_added := cd.def_ 32 (d := d_added) rfl
    g_added := He.glo_ok X G (cd.fact 32 (f := .glo "added") rfl)
    d__law_right := cd.def_ 33 (d := d__law_right) rfl
    g__law_right := He.glo_ok X G (cd.fact 33 (f := .glo "_law_right") rfl)
    d__law_bounds_right := cd.def_ 34 (d := d__law_bounds_right) rfl
    g__law_bounds_right := He.glo_ok X G (cd.fact 34 (f := .glo "_law_bounds_right") rfl)
    d_law := cd.def_ 35 (d := d_law) rfl
    g_law := He.glo_ok X G (cd.fact 35 (f := .glo "law") rfl)
    d__law_met := cd.def_ 36 (d := d__law_met) rfl
    g__law_met := He.glo_ok X G (cd.fact 36 (f := .glo "_law_met") rfl)
  }
end K14
end
section
set_option Elab.async false
set_option linter.all false
set_option maxRecDepth 100000
set_option maxHeartbeats 4000000
open PySem PySem.W PySem.Calls PyProof.Rows
theorem PySem.Challenge.cw_whichsums_k14_whole_sets_of_two_holds : PySem.Challenge.rw_whichsums_k14_whole_sets_of_two.Holds := by
  w_on; o_law
  refine HandSHeadRun.head_any (r := OpenLaw.row PySem.Challenge.rw_whichsums_k14_whole_sets_of_two) (q := view (OpenLaw.row PySem.Challenge.rw_whichsums_k14_whole_sets_of_two).prog [48]) (H := K14.hk) (ob := K14.ob) (M := 6000) (loose := K14.nm0 ++ K14.nm1 ++ K14.nm2) (d := HandSHeadRun.topDef (OpenLaw.row PySem.Challenge.rw_whichsums_k14_whole_sets_of_two).prog 48) (kwd := []) K14.ob_eq
    (by kernel_rfl) (fun s => by kernel_rfl) K14.run (by kernel_rfl) (by kernel_rfl) (by kernel_rfl) (by rfl) (by first | assumption | decide +kernel) (by decide +kernel) ⟨rfl, rfl, rfl, rfl, rfl, by decide +kernel⟩ ?hw ?hc
  case hw => w_witness2
  case hc =>
    refine DL.walk_ofT (l := PySem.Challenge.rw_whichsums_k14_whole_sets_of_two) (n := 63) (k := 12) (x := "script") rfl (by decide) (by kernel_rfl) ⟨rfl, by decide, by decide⟩ ?F
    intro w mg fa h Y G hmg0
    obtain ⟨K, KX, c⟩ := Y
    have T := K14.factsOf KX G c
    have hmg : mg ("law" : PySem.Str) = some (.ref fa) := by
      have e : (HandSHeadRun.topDef (OpenLaw.row PySem.Challenge.rw_whichsums_k14_whole_sets_of_two).prog 48).name = ("law" : PySem.Str) := by kernel_rfl
      rw [← e]
      exact hmg0
    have e := hmg.symm.trans T.g_law
    cases e
    obtain ⟨fd, F⟩ := T.d_law
    have b := L2.FunD.bindsA (ps := ["script"]) F fun _ _ _ _ _ _ us hl => match us, hl with | [_], _ => rfl
    refine ⟨K, fd, [He.cT K ("_law_bounds_right", none)], _, KX, fun s v => b s [v] rfl, fun p hp => ?_, fun p hp => ?_, fun p hp => ?_, fun p hp => ?_, K14.law_true, fun base _ _ TB => (K14.ok_law T (TB _ List.mem_cons_self)).at F⟩
    · cases List.mem_singleton.mp hp; exact c.empty _ List.mem_cons_self
    · cases List.mem_singleton.mp hp; exact c.out _ List.mem_cons_self
    · cases List.mem_singleton.mp hp; exact c.hd _ List.mem_cons_self
    · cases List.mem_singleton.mp hp; exact List.mem_cons_self
end
